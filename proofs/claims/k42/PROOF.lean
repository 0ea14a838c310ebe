import PyProof.Rows.All
import Wide.All
import OpenK.AllK
import Wide.FinOn
import HandS.ForMost
import HandS.ForExc
import KE.KeyNested
import HandS.Deep
import HandS.Style
import HandS.TupAny
import HandS.IsInst
import HandS.Wide
import HandS.Conv
import HandS.Zip
import HandS.Rev
import KE.GoesEnum
import HandS.Words
import HandS.Defaults
import HandS.ExcOwn
import KE.KDictKeyed
import HandS.DictComp
import HandS.DictTup
import KE.KDictZip
import HandS.More
import HandS.HeadHook1
import HandS.HeadHook2
import HandS.WordsExc
import HandS.AnyAll
import HandS.Ends
import HandS.Head0
import HandS.Head1
import HandS.Head2
import HandS.HeadEnd
import KE.KStateDown
import PyProof.EqAt
import PyProof.EqKinds
import PyProof.TupleCall
import KE.KFromBytes
import KE.KExcInit
import HandS.Base
import HandS.Call
import HandS.List
import HandS.Exc
import HandS.ExcInit
import HandS.TryOnly
import HandS.TryMany
import HandS.ExcField
import HandS.ExcIs
import KE.KExcIs
import HandS.Text
import HandS.FStr
import PyProof.Rows.SeqRoads
import PyProof.Rows.TupTab
import PyProof.Rows.IntBool
import KE.KDictDisplayH
import KE.GoesEnumKw
import PyProof.Rows.CallKwBuiltin
import KE.KRevSl
import HandS.SortRule
import PyProof.SumWalk
import PySem.Challenge.RW_keptgates_k42_least_gates
set_option Elab.async false
set_option linter.all false
set_option maxRecDepth 100000
set_option maxHeartbeats 1000000
/-! Dn0: values, cells, results; how they are held by the abstract heap; the first rules. -/
namespace Dn
open PySem PySem.Spec L2
/-- a value: what never changes, or the number of a cell -/
inductive D where
  | non | bl (b : Bool) | int (i : Int) | str (x : Str) | tup (xs : List D) | ref (n : Nat) | err (c : Nat) (fs : List (Str × D)) | ty (n : String) | cl (c : Nat) | scr (ns : List Int)
inductive Cell where
  | lst (xs : List D) | frz (xs : List D) | dK (kvs : List (Key × D)) | dT (kvs : List (List Key × D)) | ins (c : Nat) (fs : List (Str × D)) | dN (kvs : List (NestedKey × Int))
mutual
def D.eqb : D → D → Bool
  | .non, .non => true
  | .bl a, .bl b => a == b
  | .int a, .int b => a == b
  | .str a, .str b => decide (a = b)
  | .tup xs, .tup ys => D.eqbs xs ys
  | .ref m, .ref n => m == n
  | .err c fs, .err c' fs' => c == c' && D.eqbf fs fs'
  | .ty m, .ty n => m == n
  | .cl m, .cl n => m == n
  | .scr m, .scr n => decide (m = n)
  | _, _ => false
def D.eqbs : List D → List D → Bool
  | [], [] => true
  | x :: xs, y :: ys => D.eqb x y && D.eqbs xs ys
  | _, _ => false
def D.eqbf : List (Str × D) → List (Str × D) → Bool
  | [], [] => true
  | (f, x) :: xs, (g, y) :: ys => decide (f = g) && (D.eqb x y && D.eqbf xs ys)
  | _, _ => false
end
mutual
theorem D.eqb_iff : ∀ (x y : D), D.eqb x y = true ↔ x = y
  | .non, y => by cases y <;> simp [D.eqb]
  | .bl a, y => by cases y <;> simp [D.eqb]
  | .int a, y => by cases y <;> simp [D.eqb]
  | .str a, y => by cases y <;> simp [D.eqb]
  | .tup xs, y => by cases y <;> simp [D.eqb, D.eqbs_iff xs]
  | .ref a, y => by cases y <;> simp [D.eqb]
  | .err c fs, y => by cases y <;> simp [D.eqb, D.eqbf_iff fs]
  | .ty a, y => by cases y <;> simp [D.eqb]
  | .cl a, y => by cases y <;> simp [D.eqb]
  | .scr a, y => by cases y <;> simp [D.eqb]
theorem D.eqbs_iff : ∀ (xs ys : List D), D.eqbs xs ys = true ↔ xs = ys
  | [], ys => by cases ys <;> simp [D.eqbs]
  | x :: xs, ys => by
    cases ys with
    | nil => simp [D.eqbs]
    | cons y ys => simp [D.eqbs, D.eqb_iff x y, D.eqbs_iff xs ys]
theorem D.eqbf_iff : ∀ (xs ys : List (Str × D)), D.eqbf xs ys = true ↔ xs = ys
  | [], ys => by cases ys <;> simp [D.eqbf]
  | (f, x) :: xs, ys => by
    cases ys with
    | nil => simp [D.eqbf]
    | cons p ys =>
      obtain ⟨g, y⟩ := p
      simp [D.eqbf, D.eqb_iff x y, D.eqbf_iff xs ys, and_assoc]
end
instance : DecidableEq D := fun x y => decidable_of_iff _ (D.eqb_iff x y)
abbrev Store := List Cell
abbrev Env := List (Option D)
structure Xc where
  c : Nat
  fs : List (Str × D)
inductive R (α : Type) where
  | ok (a : α) (st : Store) | exc (x : Xc) (st : Store) | bad
def R.bind {α β : Type} (m : R α) (f : α → Store → R β) : R β := match m with
  | .ok a st => f a st
  | .exc x st => .exc x st
  | .bad => .bad
@[simp] theorem R.bind_ok {α β : Type} (a : α) (st : Store) (f : α → Store → R β) : (R.ok a st).bind f = f a st := rfl
@[simp] theorem R.bind_exc {α β : Type} (x : Xc) (st : Store) (f : α → Store → R β) : (R.exc x st : R α).bind f = .exc x st := rfl
@[simp] theorem R.bind_bad {α β : Type} (f : α → Store → R β) : (R.bad : R α).bind f = .bad := rfl
abbrev DE := Env → Store → R D
abbrev DB := Env → Store → R Bool
abbrev DA := Env → Store → R (List D)
/-- the classes by number; the exception that is handled: its address, class, dict -/
structure Ctx where
  K : PySem.W.Frag
  cls : Nat → Value
  hot : Option (Addr × Value × Addr)
/-! ### values by the abstract heap -/
/-- the script: a list of whole numbers that nobody changes -/
def ScrL (K : PySem.W.Frag) (H : Hp) (a : Addr) (ns : List Int) : Prop :=
  (∃ o, H a = some (.frz o (.lst (ns.map V.int)))) ∨
    ∃ (o : Obj) (its : Array Value) (n : Nat), K.lookup a = some o ∧ o.cls = .type "list" ∧ o.dict = none ∧ o.data = .seq its n ∧ its.size ≤ sizeLine ∧ Vals (ns.map V.int) its.toList
theorem ScrL.sq {K : PySem.W.Frag} {H : Hp} {a : Addr} {ns : List Int} (h : ScrL K H a ns) : SqL K H a (ns.map V.int) := h.imp (fun q => .inr q) id
mutual
inductive RV (G : Ctx) (ι : List Addr) (H : Hp) : D → V → Prop
  | non : RV G ι H .non .non
  | bl (b : Bool) : RV G ι H (.bl b) (.bl b)
  | int (i : Int) : RV G ι H (.int i) (.int i)
  | str (x : Str) : RV G ι H (.str x) (.str x)
  | tup {a : Addr} {xs : List D} {vs : List V} : H a = some (.tup vs) → RVs G ι H xs vs → RV G ι H (.tup xs) (.ref a)
  | ref {n : Nat} {a : Addr} : ι[n]? = some a → RV G ι H (.ref n) (.ref a)
  | err {c : Nat} {fs : List (Str × D)} {a d : Addr} {ws : List (Str × V)} : G.hot = some (a, G.cls c, d) → H d = some (.xd ws) → RFs G ι H fs ws → RV G ι H (.err c fs) (.ref a)
  | ty (n : String) : RV G ι H (.ty n) (.ty n)
  | cl {c : Nat} {a : Addr} : G.cls c = .ref a → RV G ι H (.cl c) (.ref a)
  | scr {ns : List Int} {a : Addr} : ScrL G.K H a ns → RV G ι H (.scr ns) (.ref a)
inductive RVs (G : Ctx) (ι : List Addr) (H : Hp) : List D → List V → Prop
  | nil : RVs G ι H [] []
  | cons {x : D} {v : V} {xs : List D} {vs : List V} : RV G ι H x v → RVs G ι H xs vs → RVs G ι H (x :: xs) (v :: vs)
inductive RFs (G : Ctx) (ι : List Addr) (H : Hp) : List (Str × D) → List (Str × V) → Prop
  | nil : RFs G ι H [] []
  | cons {f : Str} {x : D} {v : V} {xs : List (Str × D)} {vs : List (Str × V)} : RV G ι H x v → RFs G ι H xs vs → RFs G ι H ((f, x) :: xs) ((f, v) :: vs)
end
/-- the cells' addresses stay, new ones are fresh; what is no cell stays as it is -/
structure Ext (ι ι' : List Addr) (H H' : Hp) : Prop where
  pre : ∃ more, ι' = ι ++ more ∧ ∀ a ∈ more, H a = none
  keep : ∀ a o, a ∉ ι → H a = some o → H' a = some o
  tup : ∀ a xs, H a = some (.tup xs) → H' a = some (.tup xs)
  frz : ∀ a o u, H a = some (.frz o u) → H' a = some (.frz o u)
  xd : ∀ a fs, H a = some (.xd fs) → H' a = some (.xd fs)
  there : ∀ a, H' a = none → H a = none
theorem Ext.refl (ι : List Addr) (H : Hp) : Ext ι ι H H := ⟨⟨[], by simp, by simp⟩, fun _ _ _ e => e, fun _ _ e => e, fun _ _ _ e => e, fun _ _ e => e, fun _ e => e⟩
theorem Ext.trans {ι ι1 ι2 : List Addr} {H H1 H2 : Hp} (a : Ext ι ι1 H H1) (b : Ext ι1 ι2 H1 H2) : Ext ι ι2 H H2 := by
  obtain ⟨m, e, n1⟩ := a.pre
  obtain ⟨m', e', n2⟩ := b.pre
  refine ⟨⟨m ++ m', by rw [e', e, List.append_assoc], fun c hc => ?_⟩, fun c o h q => ?_, fun _ _ q => b.tup _ _ (a.tup _ _ q), fun _ _ _ q => b.frz _ _ _ (a.frz _ _ _ q), fun _ _ q => b.xd _ _ (a.xd _ _ q), fun c h => a.there c (b.there c h)⟩
  · rcases List.mem_append.mp hc with h | h
    · exact n1 c h
    · exact a.there c (n2 c h)
  · refine b.keep c o ?_ (a.keep c o h q)
    rw [e]
    intro hm
    rcases List.mem_append.mp hm with h' | h'
    · exact h h'
    · rw [n1 c h'] at q; cases q
theorem Ext.ix {ι ι' : List Addr} {H H' : Hp} (e : Ext ι ι' H H') {n : Nat} {a : Addr} (h : ι[n]? = some a) : ι'[n]? = some a := by
  obtain ⟨m, q, _⟩ := e.pre
  rw [q, List.getElem?_append_left (List.getElem?_eq_some_iff.mp h).1, h]
/-- what values lean on -/
structure Imm (ι ι' : List Addr) (H H' : Hp) : Prop where
  ix : ∀ (n : Nat) (a : Addr), ι[n]? = some a → ι'[n]? = some a
  tup : ∀ a xs, H a = some (.tup xs) → H' a = some (.tup xs)
  xd : ∀ a fs, H a = some (.xd fs) → H' a = some (.xd fs)
  frz : ∀ a o u, H a = some (.frz o u) → H' a = some (.frz o u)
theorem Ext.imm {ι ι' : List Addr} {H H' : Hp} (e : Ext ι ι' H H') : Imm ι ι' H H' := ⟨fun _ _ => e.ix, e.tup, e.xd, e.frz⟩
section
variable {G : Ctx} {ι ι' : List Addr} {H H' : Hp}
mutual
theorem RV.monoI (e : Imm ι ι' H H') : ∀ {x : D} {v : V}, RV G ι H x v → RV G ι' H' x v
  | _, _, .non => .non
  | _, _, .bl b => .bl b
  | _, _, .int i => .int i
  | _, _, .str x => .str x
  | _, _, .tup s r => .tup (e.tup _ _ s) (RVs.monoI e r)
  | _, _, .ty n => .ty n
  | _, _, .cl h => .cl h
  | _, _, .scr h => .scr (h.imp (fun ⟨o, q⟩ => ⟨o, e.frz _ _ _ q⟩) id)
  | _, _, .ref h => .ref (e.ix _ _ h)
  | _, _, .err h d r => .err h (e.xd _ _ d) (RFs.monoI e r)
theorem RVs.monoI (e : Imm ι ι' H H') : ∀ {xs : List D} {vs : List V}, RVs G ι H xs vs → RVs G ι' H' xs vs
  | _, _, .nil => .nil
  | _, _, .cons r t => .cons (RV.monoI e r) (RVs.monoI e t)
theorem RFs.monoI (e : Imm ι ι' H H') : ∀ {xs : List (Str × D)} {vs : List (Str × V)}, RFs G ι H xs vs → RFs G ι' H' xs vs
  | _, _, .nil => .nil
  | _, _, .cons r t => .cons (RV.monoI e r) (RFs.monoI e t)
end
theorem RV.mono (e : Ext ι ι' H H') {x : D} {v : V} (h : RV G ι H x v) : RV G ι' H' x v := h.monoI e.imm
theorem RVs.mono (e : Ext ι ι' H H') {xs : List D} {vs : List V} (h : RVs G ι H xs vs) : RVs G ι' H' xs vs := h.monoI e.imm
theorem RFs.mono (e : Ext ι ι' H H') {xs : List (Str × D)} {vs : List (Str × V)} (h : RFs G ι H xs vs) : RFs G ι' H' xs vs := h.monoI e.imm
theorem RVs.length : ∀ {xs : List D} {vs : List V}, RVs G ι H xs vs → xs.length = vs.length
  | _, _, .nil => rfl
  | _, _, .cons _ t => by simp [RVs.length t]
theorem RVs.get : ∀ {xs : List D} {vs : List V} {i : Nat} {x : D}, RVs G ι H xs vs → xs[i]? = some x → ∃ v, vs[i]? = some v ∧ RV G ι H x v
  | _, _, _, _, .nil, e => by simp at e
  | _, _, 0, _, .cons r _, e => by simp at e; subst e; exact ⟨_, rfl, r⟩
  | _, _, i + 1, x, .cons _ t, e => by
    obtain ⟨v, h1, h2⟩ := RVs.get (i := i) t (by simpa using e)
    exact ⟨v, by simpa using h1, h2⟩
theorem RVs.append : ∀ {xs ys : List D} {vs ws : List V}, RVs G ι H xs vs → RVs G ι H ys ws → RVs G ι H (xs ++ ys) (vs ++ ws)
  | _, _, _, _, .nil, s => s
  | _, _, _, _, .cons r t, s => .cons r (RVs.append t s)
theorem RVs.take : ∀ {xs : List D} {vs : List V} (n : Nat), RVs G ι H xs vs → RVs G ι H (xs.take n) (vs.take n)
  | _, _, 0, _ => .nil
  | _, _, _ + 1, .nil => .nil
  | _, _, n + 1, .cons r t => .cons r (RVs.take n t)
theorem RVs.drop : ∀ {xs : List D} {vs : List V} (n : Nat), RVs G ι H xs vs → RVs G ι H (xs.drop n) (vs.drop n)
  | _, _, 0, r => r
  | _, _, _ + 1, .nil => .nil
  | _, _, n + 1, .cons _ t => RVs.drop n t
theorem RVs.set {x : D} {v : V} (r : RV G ι H x v) : ∀ {xs : List D} {vs : List V} (i : Nat), RVs G ι H xs vs → RVs G ι H (xs.set i x) (vs.set i v)
  | _, _, _, .nil => .nil
  | _, _, 0, .cons _ t => .cons r t
  | _, _, i + 1, .cons q t => .cons q (RVs.set r i t)
theorem RVs.eraseIdx : ∀ {xs : List D} {vs : List V} (i : Nat), RVs G ι H xs vs → RVs G ι H (xs.eraseIdx i) (vs.eraseIdx i)
  | _, _, _, .nil => .nil
  | _, _, 0, .cons _ t => t
  | _, _, i + 1, .cons q t => .cons q (RVs.eraseIdx i t)
theorem RVs.reverse {xs : List D} {vs : List V} (h : RVs G ι H xs vs) : RVs G ι H xs.reverse vs.reverse := by
  induction xs generalizing vs with
  | nil => cases h; exact .nil
  | cons x xs ih =>
    cases h with
    | cons r t => rw [List.reverse_cons, List.reverse_cons]; exact (ih t).append (.cons r .nil)
theorem RVs.dropLast : ∀ {xs : List D} {vs : List V}, RVs G ι H xs vs → RVs G ι H xs.dropLast vs.dropLast
  | _, _, .nil => .nil
  | _, _, .cons _ .nil => .nil
  | _, _, .cons r (.cons r' t) => .cons r (RVs.dropLast (.cons r' t))
theorem RVs.ints : ∀ {ns : List Int} {vs : List V}, RVs G ι H (ns.map D.int) vs → vs = ns.map V.int
  | [], _, .nil => rfl
  | n :: ns, _, .cons r t => by
    cases r
    rw [RVs.ints t]; rfl
end
/-! ### cells, stores, slots -/
inductive RKV {κ : Type} (G : Ctx) (ι : List Addr) (H : Hp) : List (κ × D) → List (κ × V) → Prop
  | nil : RKV G ι H [] []
  | cons {k : κ} {x : D} {v : V} {xs : List (κ × D)} {vs : List (κ × V)} : RV G ι H x v → RKV G ι H xs vs → RKV G ι H ((k, x) :: xs) ((k, v) :: vs)
theorem RKV.monoI {κ : Type} {G : Ctx} {ι ι' : List Addr} {H H' : Hp} (e : Imm ι ι' H H') {xs : List (κ × D)} {vs : List (κ × V)} (h : RKV G ι H xs vs) : RKV G ι' H' xs vs := by
  induction h with
  | nil => exact .nil
  | cons r _ ih => exact .cons (r.monoI e) ih
theorem RKV.mono {κ : Type} {G : Ctx} {ι ι' : List Addr} {H H' : Hp} (e : Ext ι ι' H H') {xs : List (κ × D)} {vs : List (κ × V)} (h : RKV G ι H xs vs) : RKV G ι' H' xs vs := h.monoI e.imm
/-! keys of tuples in tuples, of whole numbers -/
mutual
def vkey (H : Hp) : NestedKey → V → Prop
  | .num i, v => v = .int i
  | .tup ks, v => ∃ b vs, v = .ref b ∧ H b = some (.tup vs) ∧ vkeys H ks vs
  | .none, _ => False
  | .text _, _ => False
def vkeys (H : Hp) : List NestedKey → List V → Prop
  | [], [] => True
  | k :: ks, v :: vs => vkey H k v ∧ vkeys H ks vs
  | [], _ :: _ => False
  | _ :: _, [] => False
end
mutual
theorem vkey_mono {H H' : Hp} (h : ∀ b xs, H b = some (.tup xs) → H' b = some (.tup xs)) : ∀ {k : NestedKey} {v : V}, vkey H k v → vkey H' k v
  | .num i, v, q => by unfold vkey at q ⊢; exact q
  | .tup ks, v, q => by
    unfold vkey at q ⊢
    obtain ⟨b, vs, e, hb, q⟩ := q
    exact ⟨b, vs, e, h b vs hb, vkeys_mono h q⟩
  | .none, v, q => by unfold vkey at q; exact q.elim
  | .text _, v, q => by unfold vkey at q; exact q.elim
theorem vkeys_mono {H H' : Hp} (h : ∀ b xs, H b = some (.tup xs) → H' b = some (.tup xs)) : ∀ {ks : List NestedKey} {vs : List V}, vkeys H ks vs → vkeys H' ks vs
  | [], [], _ => by unfold vkeys; trivial
  | k :: ks, v :: vs, q => by
    unfold vkeys at q ⊢
    exact ⟨vkey_mono h q.1, vkeys_mono h q.2⟩
  | [], _ :: _, q => by unfold vkeys at q; exact q.elim
  | _ :: _, [], q => by unfold vkeys at q; exact q.elim
end
/-- a dict's object, by its keys and values -/
def NOk (o : Obj) (xs : List (NestedKey × Addr × Value)) : Prop := o.ExactDict ∧ ∃ es ep, o.data = .dict es ep ∧ (∀ w : World, es.toList = xs.map fun x => (⟨x.1.hash w, .ref x.2.1, x.2.2⟩ : DictEntry)) ∧ (xs.map (·.1)).Nodup
abbrev NKV : List (NestedKey × Int) → List (NestedKey × Addr × Value) → Prop := Paired fun p q => p.1 = q.1 ∧ RelV (.int p.2) q.2.2
def CellOk (G : Ctx) (ι : List Addr) (H : Hp) (a : Addr) : Cell → Prop
  | .lst xs => ∃ vs, H a = some (.lst vs) ∧ RVs G ι H xs vs
  | .frz xs => ∃ o vs, H a = some (.frz o (.lst vs)) ∧ RVs G ι H xs vs
  | .dK kvs => ∃ ws, H a = some (.dK ws) ∧ RKV G ι H kvs ws
  | .dT kvs => ∃ ws, H a = some (.dT ws) ∧ RKV G ι H kvs ws
  | .ins c fs => ∃ C dx ws, G.cls c = .ref C ∧ H a = some (.ins C dx ws) ∧ RFs G ι H fs ws
  | .dN kvs => kvs.length ≤ sizeLine ∧ (a == sysModules) = false ∧ ∃ o xs, H a = some (.ext fun h => h.get? a = some o) ∧ NOk o xs ∧ (∀ x ∈ xs, vkey H x.1 (.ref x.2.1) ∧ x.1.depth ≤ 8) ∧ NKV kvs xs
structure Rep (G : Ctx) (ι : List Addr) (st : Store) (H : Hp) : Prop where
  len : ι.length = st.length
  nd : ι.Nodup
  cell : ∀ (i : Nat) (c : Cell) (a : Addr), st[i]? = some c → ι[i]? = some a → CellOk G ι H a c
structure REnv (G : Ctx) (ι : List Addr) (H : Hp) (env : Env) (σ : St) : Prop where
  len : env.length = σ.length
  at_ : ∀ (i : Nat) (d : D), env[i]? = some (some d) → ∃ v, σ[i]? = some (some v) ∧ RV G ι H d v
section
variable {G : Ctx} {ι ι' : List Addr} {H H' : Hp} {st : Store} {env : Env} {σ : St} {a p : Addr} {n : Nat} {c c' : Cell} {o : HO}
theorem REnv.mono (r : REnv G ι H env σ) (e : Ext ι ι' H H') : REnv G ι' H' env σ := ⟨r.len, fun i d h => let ⟨v, h1, h2⟩ := r.at_ i d h; ⟨v, h1, h2.mono e⟩⟩
theorem REnv.set (r : REnv G ι H env σ) {i : Nat} {d : D} {v : V} (rv : RV G ι H d v) : REnv G ι H (env.set i (some d)) (σ.set i (some v)) := by
  refine ⟨by rw [List.length_set, List.length_set, r.len], fun j e h => ?_⟩
  by_cases hj : i = j
  · subst hj
    have hl : i < env.length := by
      have := (List.getElem?_eq_some_iff.mp h).1
      simpa using this
    rw [List.getElem?_set_self hl] at h
    cases h
    exact ⟨v, List.getElem?_set_self (by rw [← r.len]; exact hl), rv⟩
  · rw [List.getElem?_set_ne hj] at h
    obtain ⟨w, h1, h2⟩ := r.at_ j e h
    exact ⟨w, by rw [List.getElem?_set_ne hj]; exact h1, h2⟩
theorem REnv.unset (r : REnv G ι H env σ) (i : Nat) : REnv G ι H (env.set i none) (σ.set i none) := by
  refine ⟨by rw [List.length_set, List.length_set, r.len], fun j e h => ?_⟩
  by_cases hj : i = j
  · subst hj
    have hl : i < env.length := by
      have := (List.getElem?_eq_some_iff.mp h).1
      simpa using this
    rw [List.getElem?_set_self hl] at h
    cases h
  · rw [List.getElem?_set_ne hj] at h
    obtain ⟨w, h1, h2⟩ := r.at_ j e h
    exact ⟨w, by rw [List.getElem?_set_ne hj]; exact h1, h2⟩
def dWipe (env : Env) : List Nat → Env
  | [] => env
  | v :: vs => (dWipe env vs).set v none
theorem REnv.wipe (r : REnv G ι H env σ) : ∀ vs : List Nat, REnv G ι H (dWipe env vs) (L2.wipe σ vs)
  | [] => r
  | v :: vs => (REnv.wipe r vs).unset v
theorem CellOk.mono_ofI (k : CellOk G ι H a c) (e : Imm ι ι' H H') (h : H' a = H a) : CellOk G ι' H' a c := by
  cases c with
  | lst xs => obtain ⟨vs, h1, h2⟩ := k; exact ⟨vs, h.trans h1, h2.monoI e⟩
  | frz xs => obtain ⟨q, vs, h1, h2⟩ := k; exact ⟨q, vs, h.trans h1, h2.monoI e⟩
  | dK kvs => obtain ⟨ws, h1, h2⟩ := k; exact ⟨ws, h.trans h1, h2.monoI e⟩
  | dT kvs => obtain ⟨ws, h1, h2⟩ := k; exact ⟨ws, h.trans h1, h2.monoI e⟩
  | ins q fs => obtain ⟨C, dx, ws, h0, h1, h2⟩ := k; exact ⟨C, dx, ws, h0, h.trans h1, h2.monoI e⟩
  | dN kvs => obtain ⟨z, hd, o, xs, h1, h2, h3, h4⟩ := k; exact ⟨z, hd, o, xs, h.trans h1, h2, fun x hx => ⟨vkey_mono e.tup (h3 x hx).1, (h3 x hx).2⟩, h4⟩
theorem CellOk.mono_of (k : CellOk G ι H a c) (e : Ext ι ι' H H') (h : H' a = H a) : CellOk G ι' H' a c := k.mono_ofI e.imm h
theorem CellOk.there (k : CellOk G ι H a c) : ∃ o, H a = some o := by
  cases c with
  | lst xs => obtain ⟨vs, h1, h2⟩ := k; exact ⟨_, h1⟩
  | frz xs => obtain ⟨q, vs, h1, h2⟩ := k; exact ⟨_, h1⟩
  | dK kvs => obtain ⟨ws, h1, h2⟩ := k; exact ⟨_, h1⟩
  | dT kvs => obtain ⟨ws, h1, h2⟩ := k; exact ⟨_, h1⟩
  | ins q fs => obtain ⟨C, dx, ws, h0, h1, h2⟩ := k; exact ⟨_, h1⟩
  | dN kvs => obtain ⟨_, _, o, xs, h1, _⟩ := k; exact ⟨_, h1⟩
theorem Rep.free (r : Rep G ι st H) (h : H p = none) : p ∉ ι := fun hm => by
  obtain ⟨i, hi, e⟩ := List.getElem_of_mem hm
  have hs : i < st.length := by rw [← r.len]; exact hi
  obtain ⟨o, q⟩ := (r.cell i st[i] p (by simp [hs]) (by rw [← e]; simp [hi])).there
  rw [h] at q; cases q
/-- a fresh object -/
theorem there_upd {a : Addr} : upd H p o a = none → H a = none := fun e => by
  by_cases h : a = p
  · subst h; rw [upd_same] at e; cases e
  · rw [upd_ne h] at e; exact e
theorem Ext.fresh (h : H p = none) : Ext ι ι H (upd H p o) :=
  ⟨⟨[], by simp, by simp⟩, fun a q _ e => by rw [upd_ne (ne_of_none e h)]; exact e, fun a xs e => by rw [upd_ne (ne_of_none e h)]; exact e, fun a q u e => by rw [upd_ne (ne_of_none e h)]; exact e, fun a fs e => by rw [upd_ne (ne_of_none e h)]; exact e, fun _ => there_upd⟩
theorem Ext.push (h : H p = none) : Ext ι (ι ++ [p]) H (upd H p o) := ⟨⟨[p], rfl, by simpa using h⟩, (Ext.fresh (ι := ι) h).keep, (Ext.fresh (ι := ι) h).tup, (Ext.fresh (ι := ι) h).frz, (Ext.fresh (ι := ι) h).xd, fun _ => there_upd⟩
theorem Rep.fresh (r : Rep G ι st H) (h : H p = none) : Rep G ι st (upd H p o) :=
  ⟨r.len, r.nd, fun i c a h1 h2 => by
    have k := r.cell i c a h1 h2
    obtain ⟨u, q⟩ := k.there
    exact k.mono_of (Ext.fresh h) (upd_ne (ne_of_none q h))⟩
/-- .. that is a new cell -/
theorem Rep.alloc (r : Rep G ι st H) (h : H p = none) (k : CellOk G (ι ++ [p]) (upd H p o) p c) : Rep G (ι ++ [p]) (st ++ [c]) (upd H p o) := by
  refine ⟨by simp [r.len], ?_, fun i c' a h1 h2 => ?_⟩
  · rw [List.nodup_append]
    refine ⟨r.nd, by simp, fun x hx y hy e => ?_⟩
    have : y = p := by simpa using hy
    subst this; subst e
    exact r.free h hx
  · by_cases hi : i < st.length
    · rw [List.getElem?_append_left hi] at h1
      rw [List.getElem?_append_left (by rw [r.len]; exact hi)] at h2
      have k' := r.cell i c' a h1 h2
      obtain ⟨u, q⟩ := k'.there
      exact k'.mono_of (Ext.push h) (upd_ne (ne_of_none q h))
    · have hi' : i = st.length := by
        have := (List.getElem?_eq_some_iff.mp h1).1
        simp at this
        omega
      subst hi'
      rw [List.getElem?_append_right (Nat.le_refl _), Nat.sub_self] at h1
      rw [List.getElem?_append_right (by rw [r.len]; exact Nat.le_refl _), r.len, Nat.sub_self] at h2
      cases h1; cases h2
      exact k
/-- an object that stands becomes a cell -/
theorem Rep.adopt (r : Rep G ι st H) (hp : p ∉ ι) (k : CellOk G (ι ++ [p]) H p c) : Rep G (ι ++ [p]) (st ++ [c]) H := by
  have e : Imm ι (ι ++ [p]) H H := ⟨fun n a h => by rw [List.getElem?_append_left (List.getElem?_eq_some_iff.mp h).1, h], fun _ _ h => h, fun _ _ h => h, fun _ _ _ h => h⟩
  refine ⟨by simp [r.len], ?_, fun i c' a h1 h2 => ?_⟩
  · rw [List.nodup_append]
    refine ⟨r.nd, by simp, fun x hx y hy exy => ?_⟩
    have hyp : y = p := by simpa using hy
    rw [exy, hyp] at hx
    exact hp hx
  · by_cases hi : i < st.length
    · rw [List.getElem?_append_left hi] at h1
      rw [List.getElem?_append_left (by rw [r.len]; exact hi)] at h2
      exact (r.cell i c' a h1 h2).mono_ofI e rfl
    · have hi' : i = st.length := by
        have := (List.getElem?_eq_some_iff.mp h1).1
        simp at this
        omega
      subst hi'
      rw [List.getElem?_append_right (Nat.le_refl _), Nat.sub_self] at h1
      rw [List.getElem?_append_right (by rw [r.len]; exact Nat.le_refl _), r.len, Nat.sub_self] at h2
      cases h1; cases h2
      exact k
theorem Ext.adopt (e : Ext ι ι' H H') (h : H p = none) : Ext ι (ι' ++ [p]) H H' := by
  obtain ⟨m, q1, q2⟩ := e.pre
  exact ⟨⟨m ++ [p], by rw [q1, List.append_assoc], fun a ha => (List.mem_append.mp ha).elim (q2 a) fun z => by rw [List.mem_singleton.mp z]; exact h⟩, e.keep, e.tup, e.frz, e.xd, e.there⟩
/-- a thing that is no cell is changed -/
theorem Imm.poke {xs : List V} {u : HO} (h : H p = some u) (hu : (∀ xs, u ≠ .tup xs) ∧ (∀ fs, u ≠ .xd fs) ∧ ∀ o w, u ≠ .frz o w) : Imm ι ι H (upd H p o) :=
  ⟨fun _ _ z => z, fun a ys e => by rw [upd_ne (fun z => by subst z; rw [h] at e; cases e; exact hu.1 _ rfl)]; exact e, fun a ys e => by rw [upd_ne (fun z => by subst z; rw [h] at e; cases e; exact hu.2.1 _ rfl)]; exact e, fun a o ys e => by rw [upd_ne (fun z => by subst z; rw [h] at e; cases e; exact hu.2.2 _ _ rfl)]; exact e⟩
theorem Rep.poke {u : HO} (r : Rep G ι st H) (hp : p ∉ ι) (h : H p = some u) (hu : (∀ xs, u ≠ .tup xs) ∧ (∀ fs, u ≠ .xd fs) ∧ ∀ o w, u ≠ .frz o w) : Rep G ι st (upd H p o) :=
  ⟨r.len, r.nd, fun i c a h1 h2 => (r.cell i c a h1 h2).mono_ofI (Imm.poke (xs := []) h hu) (upd_ne fun z => hp (z ▸ List.mem_of_getElem? h2))⟩
theorem Ext.poke (e : Ext ι ι' H H') (h : H p = none) : Ext ι ι' H (upd H' p o) := by
  have ne : ∀ {a : Addr} {u : HO}, H a = some u → a ≠ p := fun {a u} q z => by subst z; rw [h] at q; cases q
  exact ⟨e.pre, fun a u hn q => by rw [upd_ne (ne q)]; exact e.keep a u hn q, fun a xs q => by rw [upd_ne (ne q)]; exact e.tup _ _ q, fun a u v q => by rw [upd_ne (ne q)]; exact e.frz _ _ _ q, fun a fs q => by rw [upd_ne (ne q)]; exact e.xd _ _ q,
    fun a q => by
      by_cases z : a = p
      · rw [z]; exact h
      · rw [upd_ne z] at q; exact e.there a q⟩
theorem Ext.stay (e : Ext ι ι' H H') {u : HO} (hn : p ∉ ι) (h : H p = some u) : p ∉ ι' ∧ H' p = some u := by
  refine ⟨?_, e.keep p _ hn h⟩
  obtain ⟨more, q1, q2⟩ := e.pre
  rw [q1]
  intro hm
  rcases List.mem_append.mp hm with z | z
  · exact hn z
  · rw [q2 p z] at h; cases h
/-- a cell that may be written -/
def mutO : HO → Bool
  | .lst _ | .dK _ | .dT _ | .ins _ _ _ | .ext _ => true
  | _ => false
theorem Ext.write {q : HO} (hn : ι[n]? = some a) (h : H a = some q) (m : mutO q = true) : Ext ι ι H (upd H a o) := by
  have ne : ∀ b u, H b = some u → mutO u = false → b ≠ a := fun b u e f z => by
    subst z; rw [h] at e; cases e; rw [m] at f; cases f
  exact ⟨⟨[], by simp, by simp⟩, fun b q hb e => by rw [upd_ne (fun z => hb (by rw [z]; exact List.mem_of_getElem? hn))]; exact e, fun b xs e => by rw [upd_ne (ne b _ e rfl)]; exact e, fun b q u e => by rw [upd_ne (ne b _ e rfl)]; exact e, fun b fs e => by rw [upd_ne (ne b _ e rfl)]; exact e, fun _ => there_upd⟩
theorem Rep.write {q : HO} (r : Rep G ι st H) (hn : ι[n]? = some a) (h : H a = some q) (m : mutO q = true) (k : CellOk G ι (upd H a o) a c) : Rep G ι (st.set n c) (upd H a o) := by
  refine ⟨by simp [r.len], r.nd, fun i c' b h1 h2 => ?_⟩
  by_cases hi : n = i
  · subst hi
    have hl : n < st.length := by rw [← r.len]; exact (List.getElem?_eq_some_iff.mp hn).1
    rw [List.getElem?_set_self hl] at h1
    rw [hn] at h2
    cases h1; cases h2
    exact k
  · rw [List.getElem?_set_ne hi] at h1
    have k' := r.cell i c' b h1 h2
    have hb : b ≠ a := fun z => by
      subst z
      exact hi (nd_ix r.nd hn h2)
    exact k'.mono_of (Ext.write hn h m) (upd_ne hb)
end
/-! ### results -/
section
variable {α β γ : Type}
def okR (G : Ctx) (W : WX) (ι : List Addr) (H : Hp) (σ : St) (rel : List Addr → Hp → α → β → Prop) (Q : β → Hp → Prop) : R α → Prop
  | .ok d st => ∀ ι' H' v, Ext ι ι' H H' → Rep G ι' st H' → rel ι' H' d v → Q v H'
  | .exc x st => ∀ ι' H' dd ws, Ext ι ι' H H' → Rep G ι' st H' → H' dd = some (.xd ws) → RFs G ι' H' x.fs ws → W (G.cls x.c) (some dd) σ H'
  | .bad => False
variable {G : Ctx} {W : WX} {ι ι' : List Addr} {H H' : Hp} {σ : St} {rel : List Addr → Hp → α → β → Prop} {Q : β → Hp → Prop}
theorem okR.mono {r : R α} (h : okR G W ι H σ rel Q r) (e : Ext ι ι' H H') : okR G W ι' H' σ rel Q r := by
  cases r with
  | ok d st => exact fun ι1 H1 v e1 => h ι1 H1 v (e.trans e1)
  | exc x st => exact fun ι1 H1 dd ws e1 => h ι1 H1 dd ws (e.trans e1)
  | bad => exact h
theorem okR.ok {d : α} {v : β} {st : Store} (h : okR G W ι H σ rel Q (.ok d st)) (r : Rep G ι st H) (rv : rel ι H d v) : Q v H := h ι H v (Ext.refl _ _) r rv
theorem okR.bind {γ δ : Type} {rel2 : List Addr → Hp → γ → δ → Prop} {Q2 : δ → Hp → Prop} {m : R α} {f : α → Store → R γ} (h : okR G W ι H σ rel2 Q2 (m.bind f))
    (k : ∀ d st1 ι1 H1 v, Ext ι ι1 H H1 → Rep G ι1 st1 H1 → rel ι1 H1 d v → okR G W ι1 H1 σ rel2 Q2 (f d st1) → Q v H1) : okR G W ι H σ rel Q m := by
  cases m with
  | ok d st => exact fun ι1 H1 v e r rv => k d st ι1 H1 v e r rv (okR.mono h e)
  | exc x st => exact h
  | bad => exact h
end
abbrev relB (_ : List Addr) (_ : Hp) (b c : Bool) : Prop := b = c
/-- the readings of denotations -/
def sE (G : Ctx) (W : WX) (m : DE) : TE := fun σ H Q => ∃ ι st env, Rep G ι st H ∧ REnv G ι H env σ ∧ okR G W ι H σ (RV G) Q (m env st)
def sT (G : Ctx) (W : WX) (m : DB) : TT := fun σ H Q => ∃ ι st env, Rep G ι st H ∧ REnv G ι H env σ ∧ okR G W ι H σ relB Q (m env st)
def sA (G : Ctx) (W : WX) (m : DA) : TA := fun σ H Q => ∃ ι st env, Rep G ι st H ∧ REnv G ι H env σ ∧ okR G W ι H σ (RVs G) Q (m env st)
theorem _root_.L2.PE.imp {X : Cx} {e : Expr} {t t' : TE} (h : PE X e t) (k : ∀ σ H Q, t' σ H Q → t σ H Q) : PE X e t' := ⟨fun pins s σ H Q I q => h.run pins s σ H Q I (k σ H Q q)⟩
theorem _root_.L2.PT.imp {X : Cx} {e : Expr} {t t' : TT} (h : PT X e t) (k : ∀ σ H Q, t' σ H Q → t σ H Q) : PT X e t' := ⟨fun pins s σ H Q I q => h.run pins s σ H Q I (k σ H Q q)⟩
theorem _root_.L2.PW.imp {X : Cx} {e : Expr} {t t' : TT} (h : PW X e t) (k : ∀ σ H Q, t' σ H Q → t σ H Q) : PW X e t' := ⟨fun whole pins s σ H Q I q => h.run whole pins s σ H Q I (k σ H Q q)⟩
theorem _root_.L2.PA.imp {X : Cx} {e : List Expr} {t t' : TA} (h : PA X e t) (k : ∀ σ H Q, t' σ H Q → t σ H Q) : PA X e t' := ⟨fun p pins s σ H Q I q => h.run p pins s σ H Q I (k σ H Q q)⟩
theorem _root_.L2.PS.imp {X : Cx} {e : Stmt} {t t' : TS} (h : PS X e t) (k : ∀ D σ H, t' D σ H → t D σ H) : PS X e t' := ⟨fun pins s σ H D I q => h.run pins s σ H D I (k D σ H q)⟩
theorem _root_.L2.PSs.imp {X : Cx} {e : List Stmt} {t t' : TS} (h : PSs X e t) (k : ∀ D σ H, t' D σ H → t D σ H) : PSs X e t' := ⟨fun pins s σ H D I q => h.run pins s σ H D I (k D σ H q)⟩
/-! ### expressions -/
section
variable {X : Cx} {G : Ctx} {W : WX} {a b c e : Expr} {ma mb mc : DE} {pos : Pos}
def dVar (i : Nat) : DE := fun env st => match env[i]? with
  | some (some d) => .ok d st
  | _ => .bad
def dC (d : D) : DE := fun _ st => .ok d st
theorem r_var (i : Nat) (h : PE X e (tVar i)) : PE X e (sE G W (dVar i)) := h.imp fun σ H Q ⟨ι, st, env, r, re, q⟩ => by
  unfold dVar at q
  cases h1 : env[i]? with
  | none => rw [h1] at q; exact q.elim
  | some z =>
    cases z with
    | none => rw [h1] at q; exact q.elim
    | some d =>
      rw [h1] at q
      obtain ⟨v, h2, h3⟩ := re.at_ i d h1
      exact ⟨v, h2, okR.ok q r h3⟩
theorem r_const {v : V} {d : D} (h : PE X e (tC v)) (rv : ∀ ι H, RV G ι H d v) : PE X e (sE G W (dC d)) := h.imp fun σ H Q ⟨ι, st, env, r, re, q⟩ => okR.ok (v := v) q r (rv ι H)
theorem r_int {i j pos} : PE X (.Constant (.int i) j pos) (sE G W (dC (.int i))) := r_const pe_int fun _ _ => .int i
theorem r_bl {i j pos} : PE X (.Constant (.bool i) j pos) (sE G W (dC (.bl i))) := r_const pe_bl fun _ _ => .bl i
theorem r_str {x j pos} : PE X (.Constant (.str x) j pos) (sE G W (dC (.str x))) := r_const pe_str fun _ _ => .str x
def dBin (f : D → D → Store → R D) (ma mb : DE) : DE := fun env st => (ma env st).bind fun x st1 => (mb env st1).bind fun y st2 => f x y st2
def dUn (f : D → Store → R D) (ma : DE) : DE := fun env st => (ma env st).bind f
/-- what a rule on two values must do for a denotation on two values -/
def Fits2 (G : Ctx) (r : R2) (f : D → D → Store → R D) : Prop := ∀ (W : WX) (ι : List Addr) (st : Store) (H : Hp) (σ : St) (x y : D) (v w : V) (Q : VK), Rep G ι st H → RV G ι H x v → RV G ι H y w → okR G W ι H σ (RV G) Q (f x y st) → r v w H Q
def Fits1 (G : Ctx) (r : V → Hp → VK → Prop) (f : D → Store → R D) : Prop := ∀ (W : WX) (ι : List Addr) (st : Store) (H : Hp) (σ : St) (x : D) (v : V) (Q : VK), Rep G ι st H → RV G ι H x v → okR G W ι H σ (RV G) Q (f x st) → r v H Q
def FitsL (G : Ctx) (r : List V → Hp → VK → Prop) (f : List D → Store → R D) : Prop := ∀ (W : WX) (ι : List Addr) (st : Store) (H : Hp) (σ : St) (xs : List D) (vs : List V) (Q : VK), Rep G ι st H → RVs G ι H xs vs → okR G W ι H σ (RV G) Q (f xs st) → r vs H Q
theorem fit_op {r : R2} {f : D → D → Store → R D} (hf : Fits2 G r f) {σ : St} {H : Hp} {Q : VK} (h : sE G W (dBin f ma mb) σ H Q) : tOp r (sE G W ma) (sE G W mb) σ H Q := by
  obtain ⟨ι, st, env, rp, re, q⟩ := h
  exact ⟨ι, st, env, rp, re, okR.bind q fun x st1 ι1 H1 v e1 rp1 rv q1 => ⟨ι1, st1, env, rp1, re.mono e1, okR.bind q1 fun y st2 ι2 H2 w e2 rp2 rw' q2 => hf W ι2 st2 H2 σ x y v w Q rp2 (rv.mono e2) rw' q2⟩⟩
theorem r_op {op : Operator} {r : R2} {f : D → D → Store → R D} (ho : OpR X (binaryOp op) r) (hf : Fits2 G r f) (ha : PE X a (sE G W ma)) (hb : PE X b (sE G W mb)) : PE X (.BinOp a op b pos) (sE G W (dBin f ma mb)) :=
  (pe_op ho ha hb).imp fun _ _ _ h => fit_op hf h
theorem r_cmp {op : CmpOp} {r : R2} {f : D → D → Store → R D} (ho : OpR X (compareOp op) r) (hf : Fits2 G r f) (ha : PE X a (sE G W ma)) (hb : PE X b (sE G W mb)) (hm : behindInMarks op b = false) : PE X (.Compare a [op] [b] pos) (sE G W (dBin f ma mb)) :=
  (pe_cmpR ho ha hb hm).imp fun _ _ _ h => fit_op hf h
theorem r_ix {r : R2} {f : D → D → Store → R D} (ho : IxR X r) (hf : Fits2 G r f) (ha : PE X a (sE G W ma)) (hb : PE X b (sE G W mb)) (hs : PlainIx b) : PE X (.Subscript a b pos) (sE G W (dBin f ma mb)) :=
  (pe_ix ho ha hb hs).imp fun _ _ _ h => fit_op hf h
theorem r_un {op : UnaryOp} {r : V → Hp → VK → Prop} {f : D → Store → R D} (ho : UnR X (unaryOp op) r) (hf : Fits1 G r f) (ha : PE X a (sE G W ma)) : PE X (.UnaryOp op a pos) (sE G W (dUn f ma)) :=
  (pe_un ho ha).imp fun σ H Q ⟨ι, st, env, rp, re, q⟩ => ⟨ι, st, env, rp, re, okR.bind q fun x st1 ι1 H1 v e1 rp1 rv q1 => hf W ι1 st1 H1 σ x v Q rp1 rv q1⟩
/-! ### tests -/
/-- a value that is True or False, as a test -/
def dTest (m : DE) : DB := fun env st => (m env st).bind fun x st1 => match x with
  | .bl b => .ok b st1
  | _ => .bad
theorem fit_test {t : TE} {σ : St} {H : Hp} {Q : Bool → Hp → Prop} (h : sT G W (dTest ma) σ H Q) : sE G W ma σ H fun x H1 => ∃ k, x = .bl k ∧ Q k H1 := by
  obtain ⟨ι, st, env, rp, re, q⟩ := h
  refine ⟨ι, st, env, rp, re, okR.bind q fun x st1 ι1 H1 v e1 rp1 rv q1 => ?_⟩
  cases rv with
  | bl b => exact ⟨b, rfl, okR.ok q1 rp1 rfl⟩
  | _ => exact q1.elim
theorem r_test (h : PE X e (sE G W ma)) (he : ∀ whole, isTrue e X.env whole = (do let v ← whole; standAt e.pos; holding [v] (truthy v)) := by intro _; rfl) : PT X e (sT G W (dTest ma)) :=
  (pt_val h he).imp fun _ _ _ q => fit_test (t := sE G W ma) q
theorem r_tcmp {op : CmpOp} {r : R2} {f : D → D → Store → R D} (ho : OpR X (compareOp op) r) (hf : Fits2 G r f) (ha : PE X a (sE G W ma)) (hb : PE X b (sE G W mb)) (hm : behindInMarks op b = false) : PT X (.Compare a [op] [b] pos) (sT G W (dTest (dBin f ma mb))) :=
  (pt_cmpR ho ha hb hm).imp fun _ _ _ q => fit_op hf (fit_test (t := sE G W ma) q)
/-- a op b op' c -/
def dChain (f g : D → D → Store → R D) (ma mb mc : DE) : DE := fun env st => (ma env st).bind fun x st1 => (mb env st1).bind fun y st2 => (f x y st2).bind fun z st3 => match z with
  | .bl true => (mc env st3).bind fun w st4 => g y w st4
  | .bl false => .ok (.bl false) st3
  | _ => .bad
variable {na nb : DB} {rest : List Expr}
def dTAnd (na nb : DB) : DB := fun env st => (na env st).bind fun k st1 => if k then nb env st1 else .ok false st1
def dTOr (na nb : DB) : DB := fun env st => (na env st).bind fun k st1 => if k then .ok true st1 else nb env st1
def dTNot (na : DB) : DB := fun env st => (na env st).bind fun k st1 => .ok (!k) st1
theorem r_wor1 (ha : PT X a (sT G W na)) : PW X (.BoolOp .Or [a] pos) (sT G W na) := pw_or1 ha
theorem r_wor (ha : PT X a (sT G W na)) (hb : PW X (.BoolOp .Or (b :: rest) pos) (sT G W nb)) : PW X (.BoolOp .Or (a :: b :: rest) pos) (sT G W (dTOr na nb)) :=
  (pw_or ha hb).imp fun σ H Q ⟨ι, st, env, rp, re, q⟩ => ⟨ι, st, env, rp, re, okR.bind q fun k st1 ι1 H1 k' e1 rp1 rk q1 => by
    obtain rfl : k = k' := rk
    cases k with
    | false => exact iteF ⟨ι1, st1, env, rp1, re.mono e1, q1⟩
    | true => exact iteT (okR.ok q1 rp1 rfl)⟩
theorem r_tnot (ha : PT X a (sT G W na)) : PT X (.UnaryOp .Not a pos) (sT G W (dTNot na)) :=
  (pt_not ha).imp fun σ H Q ⟨ι, st, env, rp, re, q⟩ => ⟨ι, st, env, rp, re, okR.bind q fun k st1 ι1 H1 k' e1 rp1 rk q1 => by
    obtain rfl : k = k' := rk
    exact okR.ok q1 rp1 rfl⟩
/-- and, or, not as values: all but the last True or False -/
def dAnd (ma mb : DE) : DE := fun env st => (ma env st).bind fun x st1 => match x with
  | .bl true => mb env st1
  | .bl false => .ok (.bl false) st1
  | _ => .bad
def dOr (ma mb : DE) : DE := fun env st => (ma env st).bind fun x st1 => match x with
  | .bl true => .ok (.bl true) st1
  | .bl false => mb env st1
  | _ => .bad
def dNot (ma : DE) : DE := fun env st => (ma env st).bind fun x st1 => match x with
  | .bl k => .ok (.bl !k) st1
  | _ => .bad
def dIfE (n : DB) (ma mb : DE) : DE := fun env st => (n env st).bind fun k st1 => if k then ma env st1 else mb env st1
/-! ### argument lists, displays -/
variable {es : List Expr} {mr : DA}
def aNil : DA := fun _ st => .ok [] st
def aCons (m : DE) (mr : DA) : DA := fun env st => (m env st).bind fun x st1 => (mr env st1).bind fun xs st2 => .ok (x :: xs) st2
theorem r_anil : PA X [] (sA G W aNil) := pa_nil.imp fun σ H Q ⟨ι, st, env, rp, re, q⟩ => okR.ok q rp .nil
theorem r_acons (ha : PE X e (sE G W ma)) (hr : PA X es (sA G W mr)) (hs : starEach (e :: es) X.env = (false, eval e X.env) :: starEach es X.env := by rfl) : PA X (e :: es) (sA G W (aCons ma mr)) :=
  (pa_cons ha hr hs).imp fun σ H Q ⟨ι, st, env, rp, re, q⟩ => ⟨ι, st, env, rp, re, okR.bind q fun x st1 ι1 H1 v e1 rp1 rv q1 => ⟨ι1, st1, env, rp1, re.mono e1, okR.bind q1 fun xs st2 ι2 H2 vs e2 rp2 rvs q2 => okR.ok q2 rp2 (.cons (rv.mono e2) rvs)⟩⟩
def alloc (c : Cell) (st : Store) : R D := .ok (.ref st.length) (st ++ [c])
def mkTup (xs : List D) (st : Store) : R D := if xs.length ≤ sizeLine then .ok (.tup xs) st else .bad
def mkLst (xs : List D) (st : Store) : R D := if xs.length ≤ sizeLine then alloc (.lst xs) st else .bad
def dTup (m : DA) : DE := fun env st => (m env st).bind mkTup
def dLst (m : DA) : DE := fun env st => (m env st).bind mkLst
section
variable {ι : List Addr} {st : Store} {H : Hp} {σ : St} {Q : VK} {xs : List D} {vs : List V} {p : Addr}
theorem ok_tup (rp : Rep G ι st H) (r : RVs G ι H xs vs) (q : okR G W ι H σ (RV G) Q (mkTup xs st)) : vs.length ≤ sizeLine ∧ ∀ p, H p = none → Q (.ref p) (upd H p (.tup vs)) := by
  unfold mkTup at q
  split at q
  · rename_i h
    refine ⟨by rw [← r.length]; exact h, fun p hp => ?_⟩
    exact q ι _ _ (Ext.fresh hp) (rp.fresh hp) (.tup upd_same (r.mono (Ext.fresh hp)))
  · exact q.elim
theorem ok_alloc {c : Cell} {o : HO} (rp : Rep G ι st H) (hp : H p = none) (k : CellOk G (ι ++ [p]) (upd H p o) p c) (q : okR G W ι H σ (RV G) Q (alloc c st)) : Q (.ref p) (upd H p o) :=
  q _ _ _ (Ext.push hp) (rp.alloc hp k) (.ref (by rw [← rp.len]; simp))
theorem ok_lst (rp : Rep G ι st H) (r : RVs G ι H xs vs) (q : okR G W ι H σ (RV G) Q (mkLst xs st)) : vs.length ≤ sizeLine ∧ ∀ p, H p = none → Q (.ref p) (upd H p (.lst vs)) := by
  unfold mkLst at q
  split at q
  · rename_i h
    exact ⟨by rw [← r.length]; exact h, fun p hp => ok_alloc (c := .lst xs) rp hp ⟨vs, upd_same, r.mono (Ext.push hp)⟩ q⟩
  · exact q.elim
end
theorem r_tup {x1} (h : PA X es (sA G W mr)) : PE X (.Tuple es x1 pos) (sE G W (dTup mr)) :=
  (pe_tup h).imp fun σ H Q ⟨ι, st, env, rp, re, q⟩ => ⟨ι, st, env, rp, re, okR.bind q fun xs st1 ι1 H1 vs e1 rp1 rvs q1 => ok_tup rp1 rvs q1⟩
theorem r_lst (h : PA X es (sA G W mr)) : PE X (.List es pos) (sE G W (dLst mr)) :=
  (pe_lst h).imp fun σ H Q ⟨ι, st, env, rp, re, q⟩ => ⟨ι, st, env, rp, re, okR.bind q fun xs st1 ι1 H1 vs e1 rp1 rvs q1 => ok_lst rp1 rvs q1⟩
end
end Dn
set_option Elab.async false
set_option linter.all false
set_option maxRecDepth 100000
set_option maxHeartbeats 1000000
/-! Dn1: operations on values -/
namespace Dn
open PySem PySem.Spec L2
/-! ### operators -/
def catTup (xs ys : List D) (st : Store) : R D := if xs.length + ys.length ≤ sizeLine then .ok (.tup (xs ++ ys)) st else .bad
def catLst (m n : Nat) (st : Store) : R D := match st[m]?, st[n]? with
  | some (.lst xs), some (.lst ys) => if xs.length + ys.length ≤ sizeLine then alloc (.lst (xs ++ ys)) st else .bad
  | _, _ => .bad
def vAdd (x y : D) (st : Store) : R D := match x, y with
  | .int i, .int j => .ok (.int (i + j)) st
  | .str a, .str b => if a.length + b.length ≤ sizeLine then .ok (.str (a ++ b)) st else .bad
  | .tup xs, .tup ys => catTup xs ys st
  | .ref m, .ref n => catLst m n st
  | _, _ => .bad
def vSub (x y : D) (st : Store) : R D := match x, y with
  | .int i, .int j => .ok (.int (i - j)) st
  | _, _ => .bad
def small64 (i : Int) : Bool := decide (-(2 ^ 64) < i) && decide (i < 2 ^ 64)
def repLst (n : Nat) (k : Int) (st : Store) : R D := match st[n]? with
  | some (.lst xs) => if -(2 ^ 63) ≤ k ∧ k < 2 ^ 63 ∧ xs.length * k.toNat ≤ sizeLine then alloc (.lst (List.replicate k.toNat xs).flatten) st else .bad
  | _ => .bad
def vMul (x y : D) (st : Store) : R D := match x, y with
  | .int i, .int j => if small64 i || small64 j then .ok (.int (i * j)) st else .bad
  | .ref n, .int k => repLst n k st
  | _, _ => .bad
def vDiv (x y : D) (st : Store) : R D := match x, y with
  | .int i, .int j => if 0 < j ∧ j < 1073741824 then .ok (.int (i / j)) st else .bad
  | _, _ => .bad
def vMod (x y : D) (st : Store) : R D := match x, y with
  | .int i, .int j => if 0 < j then .ok (.int (i % j)) st else .bad
  | _, _ => .bad
def vPow (x y : D) (st : Store) : R D := match x, y with
  | .int i, .int j => if 0 ≤ j ∧ j ≤ 1000000 ∧ i.natAbs < 2 ^ 64 then .ok (.int (i ^ j.toNat)) st else .bad
  | _, _ => .bad
theorem RVs.flat_rep {G : Ctx} {ι : List Addr} {H : Hp} {xs : List D} {vs : List V} (r : RVs G ι H xs vs) : ∀ k : Nat, RVs G ι H (List.replicate k xs).flatten (List.replicate k vs).flatten
  | 0 => .nil
  | k + 1 => by
    rw [List.replicate_succ, List.replicate_succ, List.flatten_cons, List.flatten_cons]
    exact r.append (RVs.flat_rep r k)
def ROr (r r' : R2) : R2 := fun x y H Q => r x y H Q ∨ r' x y H Q
abbrev rAdd1 (K : PySem.W.Frag) : R2 := ROr (rI0 fun i j => .int (i + j)) (ROr (fun x y H Q => ∃ i j, x = .str i ∧ y = .str j ∧ i.length + j.length ≤ sizeLine ∧ Q (.str (i ++ j)) H) (ROr (rCatA K) rCat))
theorem o_add {X : Cx} : OpR X (binaryOp .Add) (rAdd1 X.K) := op_add.or (op_add_str.or (op_catA.or op_cat))
section
variable {G : Ctx} {W : WX} {ι : List Addr} {st : Store} {H : Hp} {σ : L2.St} {Q : VK}
theorem lst_of {n : Nat} {a : Addr} {xs : List D} (rp : Rep G ι st H) (h : ι[n]? = some a) (e : st[n]? = some (.lst xs)) : ∃ vs, H a = some (.lst vs) ∧ RVs G ι H xs vs := rp.cell n _ a e h
theorem f_add : Fits2 G (rAdd1 G.K) vAdd := by
  intro W ι st H σ x y v w Q rp rx ry q
  unfold vAdd at q
  split at q
  · cases rx; cases ry
    exact .inl ⟨_, _, rfl, rfl, okR.ok q rp (.int _)⟩
  · cases rx; cases ry
    split at q
    · rename_i h
      exact .inr (.inl ⟨_, _, rfl, rfl, h, okR.ok q rp (.str _)⟩)
    · exact q.elim
  · cases rx with
    | @tup a xs vs ha hv =>
    cases ry with
    | @tup b ys ws hb hw =>
    unfold catTup at q
    split at q
    · rename_i h
      have hl : vs.length + ws.length ≤ sizeLine := by rw [← hv.length, ← hw.length]; exact h
      refine .inr (.inr (.inl ⟨a, b, vs, ws, rfl, rfl, SqT.of ha, SqT.of hb, hl, fun e => ?_, fun e1 e2 => ?_, fun e1 e2 p hp => ?_⟩))
      · subst e
        cases hv
        exact okR.ok q rp (.tup hb hw)
      · subst e2
        cases hw
        rw [List.append_nil] at q
        exact okR.ok q rp (.tup ha hv)
      · exact q ι _ _ (Ext.fresh hp) (rp.fresh hp) (.tup upd_same ((hv.append hw).mono (Ext.fresh hp)))
    · exact q.elim
  · cases rx with
    | @ref n a hn =>
    cases ry with
    | @ref m b hm =>
    unfold catLst at q
    split at q
    · rename_i xs ys e1 e2
      obtain ⟨vs, ha, hv⟩ := lst_of rp hn e1
      obtain ⟨ws, hb, hw⟩ := lst_of rp hm e2
      split at q
      · rename_i h
        have hl : vs.length + ws.length ≤ sizeLine := by rw [← hv.length, ← hw.length]; exact h
        exact .inr (.inr (.inr ⟨a, b, vs, ws, rfl, rfl, ha, hb, hl, fun p hp => ok_alloc (c := .lst (xs ++ ys)) rp hp ⟨_, upd_same, (hv.append hw).mono (Ext.push hp)⟩ q⟩))
      · exact q.elim
    · exact q.elim
  · exact q.elim
abbrev rMul1 : R2 := ROr (rI CMul fun i j => .int (i * j)) rRep
theorem o_mul {X : Cx} : OpR X (binaryOp .Mult) rMul1 := op_mul.or op_rep
theorem f_mul : Fits2 G rMul1 vMul := by
  intro W ι st H σ x y v w Q rp rx ry q
  unfold vMul at q
  split at q
  · cases rx; cases ry
    split at q
    · rename_i i j h
      refine .inl ⟨_, _, rfl, rfl, ?_, okR.ok q rp (.int _)⟩
      simp only [small64, Bool.or_eq_true, Bool.and_eq_true, decide_eq_true_eq] at h
      exact h
    · exact q.elim
  · cases rx with
    | @ref n a hn =>
    cases ry
    unfold repLst at q
    split at q
    · rename_i xs e1
      obtain ⟨vs, ha, hv⟩ := lst_of rp hn e1
      split at q
      · rename_i h
        exact .inr ⟨a, _, vs, rfl, rfl, ha, h.1, h.2.1, by rw [← hv.length]; exact h.2.2, fun p hp => ok_alloc (c := .lst _) rp hp ⟨_, upd_same, (hv.flat_rep _).mono (Ext.push hp)⟩ q⟩
      · exact q.elim
    · exact q.elim
  · exact q.elim
theorem f_div : Fits2 G (rI CDiv fun i j => .int (i / j)) vDiv := by
  intro W ι st H σ x y v w Q rp rx ry q
  unfold vDiv at q
  split at q
  · cases rx; cases ry
    split at q
    · rename_i h
      exact ⟨_, _, rfl, rfl, h, okR.ok q rp (.int _)⟩
    · exact q.elim
  · exact q.elim
theorem f_mod : Fits2 G (rI (fun _ j => 0 < j) fun i j => .int (i % j)) vMod := by
  intro W ι st H σ x y v w Q rp rx ry q
  unfold vMod at q
  split at q
  · cases rx; cases ry
    split at q
    · rename_i h
      exact ⟨_, _, rfl, rfl, h, okR.ok q rp (.int _)⟩
    · exact q.elim
  · exact q.elim
theorem f_pow : Fits2 G (rI CPow fun i j => .int (i ^ j.toNat)) vPow := by
  intro W ι st H σ x y v w Q rp rx ry q
  unfold vPow at q
  split at q
  · cases rx; cases ry
    split at q
    · rename_i h
      exact ⟨_, _, rfl, rfl, h, okR.ok q rp (.int _)⟩
    · exact q.elim
  · exact q.elim
/-! ### comparisons of whole numbers -/
def vCmp (p : Int → Int → Bool) (x y : D) (st : Store) : R D := match x, y with
  | .int i, .int j => .ok (.bl (p i j)) st
  | _, _ => .bad
theorem f_cmp (p : Int → Int → Bool) : Fits2 G (rI0 fun i j => .bl (p i j)) (vCmp p) := by
  intro W ι st H σ x y v w Q rp rx ry q
  unfold vCmp at q
  split at q
  · cases rx; cases ry
    exact ⟨_, _, rfl, rfl, okR.ok q rp (.bl _)⟩
  · exact q.elim
abbrev vLt := vCmp fun i j => decide (i < j)
abbrev vLe := vCmp fun i j => decide (i ≤ j)
abbrev vGt := vCmp fun i j => decide (j < i)
abbrev vGe := vCmp fun i j => decide (j ≤ i)
/-! ### == and != of data -/
mutual
def pyW (rf : Nat → Option PyData) : D → Option PyData
  | .non => some .none
  | .bl b => some (.bool b)
  | .int i => some (.int i)
  | .str x => some (.str x)
  | .tup xs => (pyWs rf xs).map .tuple
  | .ref n => rf n
  | .err _ _ => none
  | .ty _ => none
  | .cl _ => none
  | .scr _ => none
def pyWs (rf : Nat → Option PyData) : List D → Option (List PyData)
  | [] => some []
  | x :: xs => (pyW rf x).bind fun p => (pyWs rf xs).map (p :: ·)
end
def pyN (st : Store) : Nat → Nat → Option PyData
  | 0, _ => none
  | k + 1, n => match st[n]? with
    | some (.lst xs) => (pyWs (pyN st k) xs).map .list
    | some (.frz xs) => (pyWs (pyN st k) xs).map .list
    | _ => none
def toPy (st : Store) (d : D) : Option PyData := pyW (pyN st 3) d
mutual
theorem pyW_ok {rf : Nat → Option PyData} (hr : ∀ n p a, rf n = some p → ι[n]? = some a → Dp G.K H (.ref a) p) : ∀ {d : D} {v : V} {p : PyData}, RV G ι H d v → pyW rf d = some p → Dp G.K H v p
  | _, _, _, .non, e => by simp [pyW] at e; subst e; exact .non
  | _, _, _, .bl b, e => by simp [pyW] at e; subst e; exact .bl b
  | _, _, _, .int i, e => by simp [pyW] at e; subst e; exact .int i
  | _, _, _, .str x, e => by simp [pyW] at e; subst e; exact .str x
  | _, _, _, .tup h r, e => by
    simp only [pyW, Option.map_eq_some_iff] at e
    obtain ⟨ps, e1, e2⟩ := e
    subst e2
    exact .tup (SqT.of h) (pyWs_ok hr r e1)
  | _, _, _, .ref h, e => by simp only [pyW] at e; exact hr _ _ _ e h
  | _, _, _, .err _ _ _, e => by simp [pyW] at e
  | _, _, _, .ty _, e => by simp [pyW] at e
  | _, _, _, .cl _, e => by simp [pyW] at e
  | _, _, _, .scr _, e => by simp [pyW] at e
theorem pyWs_ok {rf : Nat → Option PyData} (hr : ∀ n p a, rf n = some p → ι[n]? = some a → Dp G.K H (.ref a) p) : ∀ {ds : List D} {vs : List V} {ps : List PyData}, RVs G ι H ds vs → pyWs rf ds = some ps → DpAll G.K H vs ps
  | _, _, _, .nil, e => by simp [pyWs] at e; subst e; exact .nil
  | _, _, _, .cons r t, e => by
    simp only [pyWs, Option.bind_eq_some_iff, Option.map_eq_some_iff] at e
    obtain ⟨p, e1, ps, e2, e3⟩ := e
    subst e3
    exact .cons (pyW_ok hr r e1) (pyWs_ok hr t e2)
end
theorem pyN_ok (rp : Rep G ι st H) : ∀ (k n : Nat) (p : PyData) (a : Addr), pyN st k n = some p → ι[n]? = some a → Dp G.K H (.ref a) p
  | 0, _, _, _, e, _ => by simp [pyN] at e
  | k + 1, n, p, a, e, h => by
    unfold pyN at e
    split at e
    · rename_i xs e1
      obtain ⟨vs, ha, hv⟩ := lst_of rp h e1
      obtain ⟨ps, e2, e3⟩ := Option.map_eq_some_iff.mp e
      subst e3
      exact .lst (SqL.of ha) (pyWs_ok (pyN_ok rp k) hv e2)
    · rename_i xs e1
      obtain ⟨o, vs, ha, hv⟩ := rp.cell n _ a e1 h
      obtain ⟨ps, e2, e3⟩ := Option.map_eq_some_iff.mp e
      subst e3
      exact .lst (.inl (.inr ⟨o, ha⟩)) (pyWs_ok (pyN_ok rp k) hv e2)
    · cases e
theorem toPy_ok (rp : Rep G ι st H) {d : D} {v : V} {p : PyData} (r : RV G ι H d v) (e : toPy st d = some p) : Dp G.K H v p := pyW_ok (pyN_ok rp 3) r e
def vEq (x y : D) (st : Store) : R D := match toPy st x, toPy st y with
  | some p, some q => if SeqAt.shaped p && SeqAt.shaped q then .ok (.bl (PyData.eqv p q)) st else .bad
  | _, _ => .bad
def vNe (x y : D) (st : Store) : R D := match toPy st x, toPy st y with
  | some p, some q => if SeqAt.shaped p && SeqAt.shaped q then .ok (.bl (!PyData.eqv p q)) st else .bad
  | _, _ => .bad
theorem f_eq : Fits2 G (rEqD G.K) vEq := by
  intro W ι st H σ x y v w Q rp rx ry q
  unfold vEq at q
  split at q
  · rename_i p p' e1 e2
    split at q
    · rename_i h
      simp only [Bool.and_eq_true] at h
      exact ⟨p, p', toPy_ok rp rx e1, toPy_ok rp ry e2, h.1, h.2, okR.ok q rp (.bl _)⟩
    · exact q.elim
  · exact q.elim
theorem f_ne : Fits2 G (rNeD G.K) vNe := by
  intro W ι st H σ x y v w Q rp rx ry q
  unfold vNe at q
  split at q
  · rename_i p p' e1 e2
    split at q
    · rename_i h
      simp only [Bool.and_eq_true] at h
      exact ⟨p, p', toPy_ok rp rx e1, toPy_ok rp ry e2, h.1, h.2, okR.ok q rp (.bl _)⟩
    · exact q.elim
  · exact q.elim
/-- is, is not: of None, of two truths -/
def isNon : D → Bool
  | .non => true
  | _ => false
def vIs (x y : D) (st : Store) : R D := match y, x with
  | .non, x => .ok (.bl (isNon x)) st
  | .bl b, .bl a => .ok (.bl (decide (a = b))) st
  | _, _ => .bad
end
end Dn
set_option Elab.async false
set_option linter.all false
set_option maxRecDepth 100000
set_option maxHeartbeats 1000000
/-! Dn2: subscripts, dicts, in, stores -/
namespace Dn
open PySem PySem.Spec L2
/-! ### dicts -/
section
variable {κ : Type} [DecidableEq κ]
def valD (kvs : List (κ × D)) (k : κ) : Option D := (kvs.find? fun kv => decide (kv.1 = k)).map (·.2)
def putD (kvs : List (κ × D)) (k : κ) (v : D) : List (κ × D) :=
  if (kvs.any fun kv => decide (kv.1 = k)) = true then kvs.map fun kv => if kv.1 = k then (kv.1, v) else kv else kvs ++ [(k, v)]
def dropD (kvs : List (κ × D)) (k : κ) : List (κ × D) := kvs.filter fun kv => decide (kv.1 ≠ k)
variable {G : Ctx} {ι : List Addr} {H : Hp}
theorem RKV.length {kvs : List (κ × D)} {ws : List (κ × V)} (r : RKV G ι H kvs ws) : kvs.length = ws.length := by
  induction r with
  | nil => rfl
  | cons _ _ ih => simp [ih]
theorem RKV.val {kvs : List (κ × D)} {ws : List (κ × V)} (r : RKV G ι H kvs ws) (k : κ) : (valD kvs k = none ∧ valV ws k = none) ∨ ∃ d v, valD kvs k = some d ∧ valV ws k = some v ∧ RV G ι H d v := by
  induction r with
  | nil => exact .inl ⟨rfl, rfl⟩
  | @cons k' x v xs vs r t ih =>
    by_cases e : k' = k
    · exact .inr ⟨x, v, by simp [valD, List.find?_cons, e], by simp [valV, List.find?_cons, e], r⟩
    · have e1 : valD ((k', x) :: xs) k = valD xs k := by simp [valD, List.find?_cons, e]
      have e2 : valV ((k', v) :: vs) k = valV vs k := by simp [valV, List.find?_cons, e]
      rw [e1, e2]
      exact ih
theorem RKV.any {kvs : List (κ × D)} {ws : List (κ × V)} (r : RKV G ι H kvs ws) (k : κ) : (kvs.any fun kv => decide (kv.1 = k)) = ws.any fun kv => decide (kv.1 = k) := by
  induction r with
  | nil => rfl
  | cons _ _ ih => simp [ih]
theorem RKV.repl {kvs : List (κ × D)} {ws : List (κ × V)} (r : RKV G ι H kvs ws) (k : κ) {d : D} {v : V} (rv : RV G ι H d v) :
    RKV G ι H (kvs.map fun kv => if kv.1 = k then (kv.1, d) else kv) (ws.map fun kv => if kv.1 = k then (kv.1, v) else kv) := by
  induction r with
  | nil => exact .nil
  | @cons k' x v' xs vs r t ih =>
    by_cases e : k' = k
    · simp only [List.map_cons, e, if_true]
      exact .cons rv ih
    · simp only [List.map_cons, e, if_false]
      exact .cons r ih
theorem RKV.append {kvs kvs' : List (κ × D)} {ws ws' : List (κ × V)} (r : RKV G ι H kvs ws) (r' : RKV G ι H kvs' ws') : RKV G ι H (kvs ++ kvs') (ws ++ ws') := by
  induction r with
  | nil => exact r'
  | cons r t ih => exact .cons r ih
theorem RKV.put {kvs : List (κ × D)} {ws : List (κ × V)} (r : RKV G ι H kvs ws) (k : κ) {d : D} {v : V} (rv : RV G ι H d v) : RKV G ι H (putD kvs k d) (putK ws k v) := by
  unfold putD putK
  rw [r.any k]
  split
  · exact r.repl k rv
  · exact r.append (.cons rv .nil)
theorem RKV.drop {kvs : List (κ × D)} {ws : List (κ × V)} (r : RKV G ι H kvs ws) (k : κ) : RKV G ι H (dropD kvs k) (dropK ws k) := by
  unfold dropD dropK
  induction r with
  | nil => exact .nil
  | @cons k' x v' xs vs r t ih =>
    by_cases e : k' = k
    · simp only [List.filter_cons, e]
      simpa using ih
    · simp only [List.filter_cons, e]
      simp only [ne_eq, not_false_eq_true, decide_true, if_true]
      simp [e]
      exact .cons r (by simpa using ih)
end
/-- a key: an int or a text; a tuple of such -/
def keyOf : D → Option Key
  | .int i => some (.inl i)
  | .str x => some (.inr x)
  | _ => none
def keysOf : List D → Option (List Key)
  | [] => some []
  | x :: xs => (keyOf x).bind fun k => (keysOf xs).map (k :: ·)
def kD : Key → D
  | .inl i => .int i
  | .inr x => .str x
section
variable {G : Ctx} {W : WX} {ι : List Addr} {st : Store} {H : Hp} {σ : L2.St} {Q : VK}
theorem key_ok {d : D} {v : V} {k : Key} (r : RV G ι H d v) (e : keyOf d = some k) : v = kV k := by
  cases r <;> simp [keyOf] at e <;> subst e <;> rfl
theorem keys_ok : ∀ {ds : List D} {vs : List V} {ks : List Key}, RVs G ι H ds vs → keysOf ds = some ks → vs = ks.map kV
  | _, _, _, .nil, e => by simp [keysOf] at e; subst e; rfl
  | _, _, _, .cons r t, e => by
    simp only [keysOf, Option.bind_eq_some_iff, Option.map_eq_some_iff] at e
    obtain ⟨k, e1, ks, e2, e3⟩ := e
    subst e3
    rw [key_ok r e1, keys_ok t e2]; rfl
theorem kV_RV (k : Key) : RV G ι H (kD k) (kV k) := by cases k <;> constructor
/-- what the dict c holds at d: none where d is no key of its kind -/
def look (c : Cell) (d : D) : Option (Option D) := match c with
  | .dK kvs => (keyOf d).map (valD kvs)
  | .dT kvs => (match d with
    | .tup ds => (keysOf ds).map (valD kvs)
    | _ => none)
  | _ => none
theorem look_ok {c : Cell} {d : D} {v : V} {a : Addr} {o : Option D} (k : CellOk G ι H a c) (r : RV G ι H d v) (e : look c d = some o) : ∃ w, DGet H a v w ∧ ((o = none ∧ w = none) ∨ ∃ x y, o = some x ∧ w = some y ∧ RV G ι H x y) := by
  unfold look at e
  split at e
  · rename_i kvs
    obtain ⟨ws, h1, h2⟩ := k
    obtain ⟨kk, e1, e2⟩ := Option.map_eq_some_iff.mp e
    refine ⟨valV ws kk, .inl ⟨ws, kk, .inl h1, key_ok r e1, rfl⟩, ?_⟩
    rcases h2.val kk with ⟨q1, q2⟩ | ⟨x, y, q1, q2, q3⟩
    · exact .inl ⟨by rw [← e2]; exact q1, q2⟩
    · exact .inr ⟨x, y, by rw [← e2]; exact q1, q2, q3⟩
  · rename_i kvs
    obtain ⟨ws, h1, h2⟩ := k
    split at e
    · obtain ⟨kk, e1, e2⟩ := Option.map_eq_some_iff.mp e
      cases r with
      | @tup b xs vs hb hv =>
      refine ⟨valV ws kk, .inr ⟨ws, kk, b, .inl h1, rfl, by rw [hb, keys_ok hv e1], rfl⟩, ?_⟩
      rcases h2.val kk with ⟨q1, q2⟩ | ⟨x, y, q1, q2, q3⟩
      · exact .inl ⟨by rw [← e2]; exact q1, q2⟩
      · exact .inr ⟨x, y, by rw [← e2]; exact q1, q2, q3⟩
    · cases e
  · cases e
/-- the dict c with x at d -/
def putC (c : Cell) (d x : D) : Option Cell := match c with
  | .dK kvs => if kvs.length < sizeLine then (keyOf d).map fun k => .dK (putD kvs k x) else none
  | .dT kvs => (match d with
    | .tup ds => if kvs.length < sizeLine then (keysOf ds).map fun k => .dT (putD kvs k x) else none
    | _ => none)
  | _ => none
theorem putC_ok {c c' : Cell} {d x : D} {v y : V} {a : Addr} {n : Nat} (hn : ι[n]? = some a) (k : CellOk G ι H a c) (r : RV G ι H d v) (rx : RV G ι H x y) (e : putC c d x = some c') :
    ∃ o o', H a = some o ∧ mutO o = true ∧ DPut H a v y (upd H a o') ∧ CellOk G ι (upd H a o') a c' := by
  unfold putC at e
  split at e
  · rename_i kvs
    obtain ⟨ws, h1, h2⟩ := k
    split at e
    · rename_i hl
      obtain ⟨kk, e1, e2⟩ := Option.map_eq_some_iff.mp e
      subst e2
      refine ⟨_, .dK (putK ws kk y), h1, rfl, .inl ⟨ws, kk, h1, key_ok r e1, by rw [← h2.length]; exact hl, rfl⟩, ⟨_, upd_same, (h2.put kk rx).mono (Ext.write hn h1 rfl)⟩⟩
    · cases e
  · rename_i kvs
    obtain ⟨ws, h1, h2⟩ := k
    split at e
    · split at e
      · rename_i hl
        obtain ⟨kk, e1, e2⟩ := Option.map_eq_some_iff.mp e
        subst e2
        cases r with
        | @tup b xs vs hb hv =>
        refine ⟨_, .dT (putK ws kk y), h1, rfl, .inr ⟨ws, kk, b, h1, rfl, by rw [hb, keys_ok hv e1], by rw [← h2.length]; exact hl, rfl⟩, ⟨_, upd_same, (h2.put kk rx).mono (Ext.write hn h1 rfl)⟩⟩
      · cases e
    · cases e
  · cases e
/-! ### subscripts -/
def ixD (xs : List D) (i : Int) (st : Store) : R D := match atI xs i with
  | some x => .ok x st
  | none => .bad
theorem atI_RV {xs : List D} {vs : List V} {i : Int} {x : D} (r : RVs G ι H xs vs) (e : atI xs i = some x) : ∃ v, atI vs i = some v ∧ RV G ι H x v := by
  unfold atI at e ⊢
  rw [← r.length]
  cases h : ixN xs.length i with
  | none => rw [h] at e; cases e
  | some j =>
    rw [h] at e
    exact r.get e
def vIx (x y : D) (st : Store) : R D := match x with
  | .scr ns => (match y with
    | .int i => (match atI ns i with
      | some j => .ok (.int j) st
      | none => .bad)
    | _ => .bad)
  | .tup xs => (match y with
    | .int i => ixD xs i st
    | _ => .bad)
  | .str z => (match y with
    | .int i => if z.length ≤ sizeLine then (match atI z.cps.toList i with
      | some c => .ok (.str ⟨#[c]⟩) st
      | none => .bad) else .bad
    | _ => .bad)
  | .ref n => (match st[n]? with
    | some (.lst xs) => (match y with
      | .int i => ixD xs i st
      | _ => .bad)
    | some (.frz xs) => (match y with
      | .int i => ixD xs i st
      | _ => .bad)
    | some c => (match look c y with
      | some (some z) => .ok z st
      | _ => .bad)
    | none => .bad)
  | _ => .bad
def rIxD : R2 := fun x y H Q => ∃ a v, x = .ref a ∧ DGet H a y (some v) ∧ Q v H
theorem ix_dict {X : Cx} (hu : X.A.units + 1 < cLine) : IxR X rIxD := by
  intro value slice pins s σ H x y v u Q I rx ry h hs
  obtain ⟨a, w, ex, g, q⟩ := h
  subst ex
  obtain rfl : v = Value.ref a := rx
  have hT := dict_typeIs I g
  unfold PyProof.Rows.subscriptTail
  refine wpAny_bind ?_
  rw [getitemInPython_of_ne hT.not_modules]
  refine wpAny_bind (wpAny_specialOf hT PySem.F.slot_dict_getitem.lookup ?_)
  have fin : wpAny (model X.prog X.w) X.A (subscripted slice false (.ref a) u) (fun r s₃ => wpAny (model X.prog X.w) X.A (letTemporaryGo value (.ref a) r >>= fun _ => pure r) (EP X pins σ Q) X.xe s₃) X.xe s := by
    rw [hs]
    exact wpAny_operating (d_getItem hu I g ry fun w' s3 I3 rw' => wpAny_bind (wpAny_letTemporaryGo (wpAny_pure ⟨w, H, I3, rw', q⟩)))
  first
    | exact wpAny_pure (wpAny_bind fin)
    | exact wpAny_bind (wpAny_pure (wpAny_bind fin))
    | exact wpAny_bind fin
abbrev rIx1 (K : PySem.W.Frag) : R2 := ROr (rIx K) rIxD
theorem o_ix {X : Cx} (hu : X.A.units + 1 < cLine) : IxR X (rIx1 X.K) := ix_seq.or (ix_dict hu)
theorem f_ix : Fits2 G (rIx1 G.K) vIx := by
  intro W ι st H σ x y v w Q rp rx ry q
  unfold vIx at q
  split at q
  · cases rx with
    | scr h =>
    rename_i ns a
    split at q
    · cases ry
      split at q
      · rename_i i0 _ j e
        have e2 : atI (ns.map V.int) i0 = some (.int j) := by
          unfold atI at e ⊢
          rw [List.length_map]
          obtain ⟨k, e3, e4⟩ := Option.bind_eq_some_iff.mp e
          rw [e3, Option.bind_some, List.getElem?_map, e4]
          rfl
        exact .inl (.inl ⟨a, ns.map V.int, _, .int j, rfl, rfl, h.sq, e2, okR.ok q rp (.int _)⟩)
      · exact q.elim
    · exact q.elim
  · cases rx with
    | @tup a xs vs ha hv =>
    split at q
    · cases ry
      unfold ixD at q
      split at q
      · rename_i z e
        obtain ⟨u, h1, h2⟩ := atI_RV hv e
        exact .inl (.inr (.inl ⟨a, vs, _, u, rfl, rfl, SqT.of ha, h1, okR.ok q rp h2⟩))
      · exact q.elim
    · exact q.elim
  · cases rx
    split at q
    · cases ry
      split at q
      · rename_i h
        split at q
        · rename_i c e
          exact .inl (.inr (.inr ⟨_, _, c, rfl, rfl, h, e, okR.ok q rp (.str _)⟩))
        · exact q.elim
      · exact q.elim
    · exact q.elim
  · cases rx with
    | @ref n a hn =>
    split at q
    · rename_i xs e0
      obtain ⟨vs, ha, hv⟩ := lst_of rp hn e0
      split at q
      · cases ry
        unfold ixD at q
        split at q
        · rename_i z e
          obtain ⟨u, h1, h2⟩ := atI_RV hv e
          exact .inl (.inl ⟨a, vs, _, u, rfl, rfl, SqL.of ha, h1, okR.ok q rp h2⟩)
        · exact q.elim
      · exact q.elim
    · rename_i xs e0
      obtain ⟨o, vs, ha, hv⟩ := rp.cell _ _ a e0 hn
      split at q
      · cases ry
        unfold ixD at q
        split at q
        · rename_i z e
          obtain ⟨u, h1, h2⟩ := atI_RV hv e
          exact .inl (.inl ⟨a, vs, _, u, rfl, rfl, .inl (.inr ⟨o, ha⟩), h1, okR.ok q rp h2⟩)
        · exact q.elim
      · exact q.elim
    · rename_i c _ _ e0
      split at q
      · rename_i z e
        obtain ⟨u, g, h⟩ := look_ok (rp.cell _ _ a e0 hn) ry e
        rcases h with ⟨h1, h2⟩ | ⟨z', u', h1, h2, h3⟩
        · cases h1
        · cases h1
          subst h2
          exact .inr ⟨a, u', rfl, g, okR.ok q rp h3⟩
      · exact q.elim
    · exact q.elim
  · exact q.elim
/-! ### in -/
def anyEq (ps : List PyData) (p : PyData) : Bool := ps.any fun z => PyData.eqv z p
def vInSeq (neg : Bool) (x : D) (mk : List PyData → PyData) (ps : Option (List PyData)) (st : Store) : R D := match toPy st x, ps with
  | some p, some ps => if SeqAt.shaped p && SeqAt.shaped (mk ps) then .ok (.bl (if neg then !anyEq ps p else anyEq ps p)) st else .bad
  | _, _ => .bad
def inSign (neg : Bool) (x y : Str) (st : Store) : R D := match x.cps.toList with
  | [c] => .ok (.bl (if neg then !decide (c ∈ y.cps.toList) else decide (c ∈ y.cps.toList))) st
  | _ => .bad
def vIn (neg : Bool) (x y : D) (st : Store) : R D := match y with
  | .tup ys => vInSeq neg x .tuple (pyWs (pyN st 3) ys) st
  | .str z => (match x with
    | .str w => inSign neg w z st
    | _ => .bad)
  | .ref n => (match st[n]? with
    | some (.lst xs) => vInSeq neg x .list (pyWs (pyN st 3) xs) st
    | some (.frz xs) => vInSeq neg x .list (pyWs (pyN st 3) xs) st
    | some c => (match look c x with
      | some o => .ok (.bl (if neg then !o.isSome else o.isSome)) st
      | none => .bad)
    | none => .bad)
  | _ => .bad
def rInT (K : PySem.W.Frag) (neg : Bool) : R2 := fun x y H Q => ∃ d ds, Dp K H x d ∧ Dp K H y (.tuple ds) ∧ SeqAt.shaped d = true ∧ SeqAt.shaped (.tuple ds) = true ∧ Q (.bl (if neg then !ds.any fun z => PyData.eqv z d else ds.any fun z => PyData.eqv z d)) H
theorem op_notInT {X : Cx} (hu : X.A.units + 65 < cLine) : OpR X (compareOp .NotIn) (rInT X.K true) := by
  intro pins s σ H x y v u Q I rx ry h
  obtain ⟨d, ds, hd, he, sd, se, q⟩ := h
  obtain ⟨as, r1⟩ := Dp.reads I d x v hd rx
  obtain ⟨bs, r2⟩ := Dp.reads I (.tuple ds) y u he ry
  exact SeqAt.notIn_tuple_reads r2 r1 (SeqAt.canLay_of_shaped se) (SeqAt.canLay_of_shaped sd) (PyProof.Rows.room_in_shaped sd hu) ⟨.bl _, H, I, rfl, q⟩
def rInDct (neg : Bool) : R2 := fun y x H Q => ∃ a o, x = .ref a ∧ DGet H a y o ∧ Q (.bl (if neg then !o.isSome else o.isSome)) H
theorem op_notInDct {X : Cx} (hu : X.A.units + 1 < cLine) : OpR X (compareOp .NotIn) (rInDct true) := by
  intro pins s σ H x y v u Q I rx ry h
  obtain ⟨a, o, ex, g, q⟩ := h
  subst ex
  obtain rfl : u = Value.ref a := ry
  exact d_notIn hu I g rx fun s' I' => ⟨.bl (!o.isSome), H, I', rfl, q⟩
abbrev rInL (K : PySem.W.Frag) (neg : Bool) : R2 := if neg then rNotInD K else rInD K
def rSign (neg : Bool) : R2 := fun x y H Q => ∃ (c : Nat) (z : Str), x = .str ⟨#[c]⟩ ∧ y = .str z ∧ Q (.bl (if neg then !decide (c ∈ z.cps.toList) else decide (c ∈ z.cps.toList))) H
abbrev rIn1 (K : PySem.W.Frag) (neg : Bool) : R2 := ROr (rInL K neg) (ROr (rInT K neg) (ROr (rInDct neg) (rSign neg)))
theorem o_notin {X : Cx} (hu : X.A.units + 65 < cLine) : OpR X (compareOp .NotIn) (rIn1 X.K true) := (op_notInD hu).or ((op_notInT hu).or ((op_notInDct (by omega)).or op_notIn_sign))
theorem inL_ok {neg : Bool} {x y : V} {p : PyData} {ps : List PyData} (h1 : Dp G.K H x p) (h2 : Dp G.K H y (.list ps)) (h : (SeqAt.shaped p && SeqAt.shaped (.list ps)) = true) (q : Q (.bl (if neg then !anyEq ps p else anyEq ps p)) H) : rInL G.K neg x y H Q := by
  simp only [Bool.and_eq_true] at h
  cases neg with
  | true => exact ⟨p, ps, h1, h2, h.1, h.2, q⟩
  | false => exact ⟨p, ps, h1, h2, h.1, h.2, q⟩
theorem f_in (neg : Bool) : Fits2 G (rIn1 G.K neg) (vIn neg) := by
  intro W ι st H σ x y v w Q rp rx ry q
  unfold vIn at q
  split at q
  · unfold vInSeq at q
    split at q
    · rename_i p ps e1 e2
      split at q
      · rename_i h
        cases ry with
        | @tup a ys vs ha hv =>
        simp only [Bool.and_eq_true] at h
        exact .inr (.inl ⟨p, ps, toPy_ok rp rx e1, .tup (SqT.of ha) (pyWs_ok (pyN_ok rp 3) hv e2), h.1, h.2, okR.ok q rp (.bl _)⟩)
      · exact q.elim
    · exact q.elim
  · rename_i z1
    split at q
    · rename_i w1
      cases rx
      cases ry
      unfold inSign at q
      split at q
      · rename_i c e
        refine .inr (.inr (.inr ⟨c, z1, ?_, rfl, okR.ok q rp (.bl _)⟩))
        obtain ⟨cps⟩ := w1
        have e' : cps = #[c] := by
          apply Array.ext'
          simpa using e
        rw [e']
      · exact q.elim
    · exact q.elim
  · cases ry with
    | @ref n a hn =>
    split at q
    · rename_i xs e0
      obtain ⟨vs, ha, hv⟩ := lst_of rp hn e0
      unfold vInSeq at q
      split at q
      · rename_i p ps e1 e2
        split at q
        · rename_i h
          exact .inl (inL_ok (toPy_ok rp rx e1) (.lst (SqL.of ha) (pyWs_ok (pyN_ok rp 3) hv e2)) h (okR.ok q rp (.bl _)))
        · exact q.elim
      · exact q.elim
    · rename_i xs e0
      obtain ⟨o, vs, ha, hv⟩ := rp.cell _ _ a e0 hn
      unfold vInSeq at q
      split at q
      · rename_i p ps e1 e2
        split at q
        · rename_i h
          exact .inl (inL_ok (toPy_ok rp rx e1) (.lst (.inl (.inr ⟨o, ha⟩)) (pyWs_ok (pyN_ok rp 3) hv e2)) h (okR.ok q rp (.bl _)))
        · exact q.elim
      · exact q.elim
    · rename_i c _ _ e0
      split at q
      · rename_i o e
        obtain ⟨u, g, h⟩ := look_ok (rp.cell _ _ a e0 hn) rx e
        refine .inr (.inr (.inl ⟨a, u, rfl, g, ?_⟩))
        have eo : u.isSome = o.isSome := by
          rcases h with ⟨h1, h2⟩ | ⟨z', u', h1, h2, h3⟩
          · rw [h1, h2]; rfl
          · rw [h1, h2]; rfl
        rw [eo]
        exact okR.ok q rp (.bl _)
      · exact q.elim
    · exact q.elim
  · exact q.elim
/-! ### o[i] = e -/
def vSet (o i x : D) (st : Store) : R Unit := match o with
  | .ref n => (match st[n]? with
    | some (.lst xs) => (match i with
      | .int k => (match ixN xs.length k with
        | some j => .ok () (st.set n (.lst (xs.set j x)))
        | none => .bad)
      | _ => .bad)
    | some c => (match putC c i x with
      | some c' => .ok () (st.set n c')
      | none => .bad)
    | none => .bad)
  | _ => .bad
def rSet1 : TSet := fun o i v H Q => rSetL o i v H Q ∨ ∃ a H', o = .ref a ∧ DPut H a i v H' ∧ Q H'
theorem s_set {X : Cx} (hu : X.A.units + 1 < cLine) : PSet X rSet1 := by
  intro pins s σ H o i v ov iv u Q I ro ri rv h
  rcases h with h | ⟨a, H', eo, g, q⟩
  · exact set_list pins s σ H o i v ov iv u Q I ro ri rv h
  · subst eo
    obtain rfl : ov = Value.ref a := ro
    exact d_setItem hu I g ri rv fun s' I' => ⟨H', I', q⟩
abbrev relU (_ : List Addr) (_ : Hp) (_ _ : Unit) : Prop := True
theorem f_set {o i x : D} {ov iv v : V} {Q : Hp → Prop} (rp : Rep G ι st H) (ro : RV G ι H o ov) (ri : RV G ι H i iv) (rx : RV G ι H x v) (q : okR G W ι H σ relU (fun _ => Q) (vSet o i x st)) : rSet1 ov iv v H Q := by
  unfold vSet at q
  split at q
  · cases ro with
    | @ref n a hn =>
    split at q
    · rename_i xs e0
      obtain ⟨vs, ha, hv⟩ := lst_of rp hn e0
      split at q
      · rename_i k
        cases ri
        split at q
        · rename_i j ej
          refine .inl ⟨a, vs, k, j, rfl, rfl, ha, by rw [← hv.length]; exact ej, ?_⟩
          exact q ι _ () (Ext.write hn ha rfl) (rp.write hn ha rfl ⟨_, upd_same, ((RVs.set rx j hv)).mono (Ext.write hn ha rfl)⟩) trivial
        · exact q.elim
      · exact q.elim
    · rename_i c _ e0
      split at q
      · rename_i c' e
        obtain ⟨o1, o2, h1, h2, h3, h4⟩ := putC_ok hn (rp.cell _ _ a e0 hn) ri rx e
        exact .inr ⟨a, _, rfl, h3, q ι _ () (Ext.write hn h1 h2) (rp.write hn h1 h2 h4) trivial⟩
      · exact q.elim
    · exact q.elim
  · exact q.elim
end
end Dn
set_option Elab.async false
set_option linter.all false
set_option maxRecDepth 100000
set_option maxHeartbeats 1000000
/-! Dn3: built-ins, methods, slices -/
namespace Dn
open PySem PySem.Spec L2
section
variable {X : Cx} {G : Ctx} {W : WX} {x : Str} {p pos : Pos} {e : Expr} {es : List Expr} {ma : DA} {m : DE} {id T : String} {r : List V → Hp → VK → Prop} {f : List D → Store → R D}
def dCall (f : List D → Store → R D) (ma : DA) : DE := fun env st => (ma env st).bind f
theorem fit_call (hf : FitsL G r f) {σ : L2.St} {H : Hp} {Q : VK} (h : sE G W (dCall f ma) σ H Q) : tCB r (sA G W ma) σ H Q := by
  obtain ⟨ι, st, env, rp, re, q⟩ := h
  exact ⟨ι, st, env, rp, re, okR.bind q fun xs st1 ι1 H1 vs e1 rp1 rvs q1 => hf W ι1 st1 H1 σ xs vs Q rp1 rvs q1⟩
theorem r_callB (hc : CallR X (.builtin id) r) (hf : FitsL G r f) (hg : Gl X x) (hm : X.mg x = none) (hv : bootBuiltins x = some (.builtin id)) (ha : PA X (e :: es) (sA G W ma)) (hn : x ≠ "__name__" := by decide) (hdb : (x == ("__debug__" : Str)) = false := by decide)
    (he : starEach (e :: es) X.env = (false, eval e X.env) :: starEach es X.env := by rfl) (hpl : (backTo pos (starEach es X.env)).any (·.1) = false := by rfl) : PE X (.Call (.Name x p) (e :: es) [] pos) (sE G W (dCall f ma)) :=
  (pe_callB hc hg hm hv ha hn hdb he hpl).imp fun _ _ _ h => fit_call hf h
theorem r_callTy (hc : CallR X (.type T) r) (hf : FitsL G r f) (hg : Gl X x) (hm : X.mg x = none) (hv : bootBuiltins x = some (.type T)) (ha : PA X (e :: es) (sA G W ma)) (hn : x ≠ "__name__" := by decide) (hdb : (x == ("__debug__" : Str)) = false := by decide)
    (he : starEach (e :: es) X.env = (false, eval e X.env) :: starEach es X.env := by rfl) (hpl : (backTo pos (starEach es X.env)).any (·.1) = false := by rfl) : PE X (.Call (.Name x p) (e :: es) [] pos) (sE G W (dCall f ma)) :=
  (pe_callTy hc hg hm hv ha hn hdb he hpl).imp fun _ _ _ h => fit_call hf h
/-! ### methods of built-in values -/
def recv (T : String) (o : D) (st : Store) : Bool := match o with
  | .str _ => decide (T = "str")
  | .ref n => (match st[n]? with
    | some (.lst _) => decide (T = "list")
    | some (.frz _) => decide (T = "list")
    | some (.dK _) => decide (T = "dict")
    | some (.dT _) => decide (T = "dict")
    | _ => false)
  | _ => false
def FitsM (G : Ctx) (r : V → List V → Hp → VK → Prop) (f : D → List D → Store → R D) : Prop := ∀ (W : WX) (ι : List Addr) (st : Store) (H : Hp) (σ : L2.St) (o : D) (ov : V) (xs : List D) (vs : List V) (Q : VK), Rep G ι st H → RV G ι H o ov → RVs G ι H xs vs → okR G W ι H σ (RV G) Q (f o xs st) → r ov vs H Q
def dMeth (T : String) (f : D → List D → Store → R D) (m : DE) (ma : DA) : DE := fun env st => (m env st).bind fun o st1 => if recv T o st1 then (ma env st1).bind fun xs st2 => f o xs st2 else .bad
theorem recv_ok {ι : List Addr} {st : Store} {H : Hp} {o : D} {v : V} (rp : Rep G ι st H) (rv : RV G ι H o v) (h : recv T o st = true) : tyV G.K T v H := by
  unfold recv at h
  split at h
  · cases rv
    exact (of_decide_eq_true h : T = "str")
  · cases rv with
    | @ref n a hn =>
    split at h
    · rename_i xs e
      obtain ⟨vs, ha, hv⟩ := rp.cell _ _ a e hn
      exact .inl ⟨of_decide_eq_true h, vs, SqL.of ha⟩
    · rename_i xs e
      obtain ⟨o, vs, ha, hv⟩ := rp.cell _ _ a e hn
      exact .inl ⟨of_decide_eq_true h, vs, .inl (.inr ⟨o, ha⟩)⟩
    · rename_i xs e
      obtain ⟨vs, ha, hv⟩ := rp.cell _ _ a e hn
      exact .inr (.inr (.inl ⟨of_decide_eq_true h, .inl ⟨vs, ha⟩⟩))
    · rename_i xs e
      obtain ⟨vs, ha, hv⟩ := rp.cell _ _ a e hn
      exact .inr (.inr (.inl ⟨of_decide_eq_true h, .inr ⟨vs, ha⟩⟩))
    · cases h
  · cases h
theorem r_bm {name : Str} {apos cpos : Pos} {o : Expr} {r : V → List V → Hp → VK → Prop} {f : D → List D → Store → R D} (hf : FitsM G r f) (pa : PlainAttrs T) (slot : Slot T name id) (hty : typeOf (.builtin id) = pure (.type "method_descriptor")) (hm : MtR X id r) (ho : PE X o (sE G W m)) (ha : PA X (e :: es) (sA G W ma)) (hK : X.K = G.K := by rfl)
    (hbase : attributeBase o name X.env (eval o X.env) = eval o X.env := by rfl)
    (hfew : ((backTo cpos (starEach (e :: es) X.env)).all (fun x => !x.1) && (backToKw cpos (keywordEach [] X.env)).all (fun x => x.1.isSome)
      && decide ((e :: es).length + ([] : List Keyword).length + (if ([] : List Keyword).isEmpty then 0 else 1) < 30)) = true := by rfl)
    (hline : (apos.endLine == cpos.line) = true := by rfl) (hs : starEach (e :: es) X.env = (false, eval e X.env) :: starEach es X.env := by rfl) (hplain : (backTo cpos (starEach es X.env)).any (·.1) = false := by rfl) :
    PE X (.Call (.Attribute o name apos) (e :: es) [] cpos) (sE G W (dMeth T f m ma)) :=
  (pe_bm pa slot hty hm ho ha hbase hfew hline hs hplain).imp fun σ H Q ⟨ι, st, env, rp, re, q⟩ => ⟨ι, st, env, rp, re, okR.bind q fun o st1 ι1 H1 ov e1 rp1 rv q1 => by
    split at q1
    · rename_i h
      refine ⟨by rw [hK]; exact recv_ok rp1 rv h, ι1, st1, env, rp1, re.mono e1, okR.bind q1 fun xs st2 ι2 H2 vs e2 rp2 rvs q2 => ?_⟩
      exact hf W ι2 st2 H2 σ o ov xs vs Q rp2 (rv.mono e2) rvs q2
    · exact q1.elim⟩
theorem r_bm0 {name : Str} {apos cpos : Pos} {o : Expr} {r : V → List V → Hp → VK → Prop} {f : D → List D → Store → R D} (hf : FitsM G r f) (pa : PlainAttrs T) (slot : Slot T name id) (hty : typeOf (.builtin id) = pure (.type "method_descriptor")) (hm : MtR X id r) (ho : PE X o (sE G W m)) (hK : X.K = G.K := by rfl)
    (hbase : attributeBase o name X.env (eval o X.env) = eval o X.env := by rfl) (hline : (apos.endLine == cpos.line) = true := by rfl) : PE X (.Call (.Attribute o name apos) [] [] cpos) (sE G W (dMeth T f m aNil)) :=
  (pe_bm0 pa slot hty hm ho hbase hline).imp fun σ H Q ⟨ι, st, env, rp, re, q⟩ => ⟨ι, st, env, rp, re, okR.bind q fun o st1 ι1 H1 ov e1 rp1 rv q1 => by
    split at q1
    · rename_i h
      exact ⟨by rw [hK]; exact recv_ok rp1 rv h, hf W ι1 st1 H1 σ o ov [] [] Q rp1 rv .nil q1⟩
    · exact q1.elim⟩
end
section
variable {G : Ctx} {W : WX} {ι : List Addr} {st : Store} {H : Hp} {σ : L2.St} {Q : VK}
/-! ### list methods -/
def mAppend (o : D) (xs : List D) (st : Store) : R D := match o, xs with
  | .ref n, [x] => (match st[n]? with
    | some (.lst ys) => if ys.length < sizeLine then .ok .non (st.set n (.lst (ys ++ [x]))) else .bad
    | _ => .bad)
  | _, _ => .bad
theorem f_append : FitsM G rAppend mAppend := by
  intro W ι st H σ o ov xs vs Q rp ro rx q
  unfold mAppend at q
  split at q
  · cases ro with
    | @ref n a hn =>
    cases rx with
    | cons r1 r2 =>
    cases r2
    split at q
    · rename_i ys e0
      obtain ⟨ws, ha, hw⟩ := lst_of rp hn e0
      split at q
      · rename_i h
        exact ⟨a, ws, _, rfl, rfl, ha, by rw [← hw.length]; exact h, q ι _ _ (Ext.write hn ha rfl) (rp.write hn ha rfl ⟨_, upd_same, (hw.append (.cons r1 .nil)).mono (Ext.write hn ha rfl)⟩) .non⟩
      · exact q.elim
    · exact q.elim
  · exact q.elim
def mExtend (o : D) (xs : List D) (st : Store) : R D := match o, xs with
  | .ref n, [.ref m] => (match st[n]?, st[m]? with
    | some (.lst ys), some (.lst zs) => if ys.length + zs.length ≤ sizeLine then .ok .non (st.set n (.lst (ys ++ zs))) else .bad
    | _, _ => .bad)
  | _, _ => .bad
theorem f_extend : FitsM G rExtend mExtend := by
  intro W ι st H σ o ov xs vs Q rp ro rx q
  unfold mExtend at q
  split at q
  · cases ro with
    | @ref n a hn =>
    cases rx with
    | cons r1 r2 =>
    cases r2
    cases r1 with
    | @ref m b hm =>
    split at q
    · rename_i ys zs e0 e1
      obtain ⟨ws, ha, hw⟩ := lst_of rp hn e0
      obtain ⟨us, hb, hu⟩ := lst_of rp hm e1
      split at q
      · rename_i h
        exact ⟨a, b, ws, us, rfl, rfl, ha, hb, by rw [← hw.length, ← hu.length]; exact h, q ι _ _ (Ext.write hn ha rfl) (rp.write hn ha rfl ⟨_, upd_same, (hw.append hu).mono (Ext.write hn ha rfl)⟩) .non⟩
      · exact q.elim
    · exact q.elim
  · exact q.elim
def mPop (o : D) (xs : List D) (st : Store) : R D := match o, xs with
  | .ref n, [] => (match st[n]? with
    | some (.lst ys) => (match ys[ys.length - 1]? with
      | some y => .ok y (st.set n (.lst ys.dropLast))
      | none => .bad)
    | _ => .bad)
  | _, _ => .bad
theorem f_pop : FitsM G rPop mPop := by
  intro W ι st H σ o ov xs vs Q rp ro rx q
  unfold mPop at q
  split at q
  · cases ro with
    | @ref n a hn =>
    cases rx
    split at q
    · rename_i ys e0
      obtain ⟨ws, ha, hw⟩ := lst_of rp hn e0
      split at q
      · rename_i y ey
        obtain ⟨v, h1, h2⟩ := hw.get ey
        exact ⟨a, ws, v, rfl, rfl, ha, by rw [← hw.length]; exact h1, q ι _ _ (Ext.write hn ha rfl) (rp.write hn ha rfl ⟨_, upd_same, hw.dropLast.mono (Ext.write hn ha rfl)⟩) (h2.mono (Ext.write hn ha rfl))⟩
      · exact q.elim
    · exact q.elim
  · exact q.elim
def mPopAt (o : D) (xs : List D) (st : Store) : R D := match o, xs with
  | .ref n, [.int i] => (match st[n]? with
    | some (.lst ys) => if -(2 ^ 63) ≤ i ∧ i < 2 ^ 63 then (match seqIndex? i ys.length with
      | some k => (match ys[k]? with
        | some y => .ok y (st.set n (.lst (ys.eraseIdx k)))
        | none => .bad)
      | none => .bad) else .bad
    | _ => .bad)
  | _, _ => .bad
theorem f_popAt : FitsM G rPopAt mPopAt := by
  intro W ι st H σ o ov xs vs Q rp ro rx q
  unfold mPopAt at q
  split at q
  · cases ro with
    | @ref n a hn =>
    cases rx with
    | cons r1 r2 =>
    cases r2
    cases r1
    split at q
    · rename_i ys e0
      obtain ⟨ws, ha, hw⟩ := lst_of rp hn e0
      split at q
      · rename_i hb
        split at q
        · rename_i k ek
          split at q
          · rename_i y ey
            obtain ⟨v, h1, h2⟩ := hw.get ey
            exact ⟨a, ws, _, k, v, rfl, rfl, ha, hb.1, hb.2, by rw [← hw.length]; exact ek, h1, q ι _ _ (Ext.write hn ha rfl) (rp.write hn ha rfl ⟨_, upd_same, (hw.eraseIdx k).mono (Ext.write hn ha rfl)⟩) (h2.mono (Ext.write hn ha rfl))⟩
          · exact q.elim
        · exact q.elim
      · exact q.elim
    · exact q.elim
  · exact q.elim
/-- the first place of an equal one -/
def firstEq (ps : List PyData) (p : PyData) : Option Nat := ps.findIdx? fun z => PyData.eqv z p
def mIndex (o : D) (xs : List D) (st : Store) : R D := match o, xs with
  | .ref n, [x] => (match st[n]?, toPy st x with
    | some (.lst ys), some p => (match pyWs (pyN st 3) ys with
      | some ps => if SeqAt.shaped p && SeqAt.shaped (.list ps) then (match firstEq ps p with
        | some j => .ok (.int j) st
        | none => .bad) else .bad
      | none => .bad)
    | _, _ => .bad)
  | _, _ => .bad
theorem f_index : FitsM G (rIndexD G.K) mIndex := by
  intro W ι st H σ o ov xs vs Q rp ro rx q
  unfold mIndex at q
  split at q
  · cases ro with
    | @ref n a hn =>
    cases rx with
    | cons r1 r2 =>
    cases r2
    split at q
    · rename_i ys p e0 ep
      obtain ⟨ws, ha, hw⟩ := lst_of rp hn e0
      split at q
      · rename_i ps eps
        split at q
        · rename_i hs
          simp only [Bool.and_eq_true] at hs
          split at q
          · rename_i j ej
            unfold firstEq at ej
            have hj := List.findIdx?_eq_some_iff_getElem.mp ej
            obtain ⟨hlt, h1, h2⟩ := hj
            refine ⟨a, _, p, ps, j, ps[j], rfl, rfl, .lst (SqL.of ha) (pyWs_ok (pyN_ok rp 3) hw eps), toPy_ok rp r1 ep, hs.2, hs.1, by simp [hlt], h1, fun m z hm hz => ?_, okR.ok q rp (.int _)⟩
            have := h2 m hm
            obtain ⟨hml, rfl⟩ := List.getElem?_eq_some_iff.mp hz
            simpa using this
          · exact q.elim
        · exact q.elim
      · exact q.elim
    · exact q.elim
  · exact q.elim
/-! ### built-ins -/
def bLen (xs : List D) (st : Store) : R D := match xs with
  | [.tup ys] => .ok (.int ys.length) st
  | [.scr ns] => .ok (.int ns.length) st
  | [.str z] => if z.length ≤ sizeLine then .ok (.int z.length) st else .bad
  | [.ref n] => (match st[n]? with
    | some (.lst ys) => .ok (.int ys.length) st
    | some (.frz ys) => .ok (.int ys.length) st
    | some (.dK kvs) => .ok (.int kvs.length) st
    | _ => .bad)
  | _ => .bad
def rLen1 (K : PySem.W.Frag) : List V → Hp → VK → Prop := fun xs H Q => (∃ x n, xs = [x] ∧ LenV K x H n ∧ Q (.int n) H) ∨ ∃ a kvs, xs = [V.ref a] ∧ H a = some (.dK kvs) ∧ Q (.int kvs.length) H
theorem c_len {X : Cx} : CallR X (.builtin "len") (rLen1 X.K) := call_len.or call_lenD
theorem f_len : FitsL G (rLen1 G.K) bLen := by
  intro W ι st H σ xs vs Q rp rx q
  unfold bLen at q
  split at q
  · cases rx with
    | cons r1 r2 =>
    cases r2
    cases r1 with
    | @tup a xs vs ha hv =>
    exact .inl ⟨_, vs.length, rfl, .inr ⟨vs, SqT.of ha, rfl⟩, by rw [← hv.length]; exact okR.ok q rp (.int _)⟩
  · cases rx with
    | cons r1 r2 =>
    cases r2
    cases r1 with
    | scr h => exact .inl ⟨_, _, rfl, .inl ⟨_, h.sq, rfl⟩, by rw [List.length_map]; exact okR.ok q rp (.int _)⟩
  · cases rx with
    | cons r1 r2 =>
    cases r2
    cases r1
    split at q
    · rename_i h
      exact .inl ⟨_, _, rfl, ⟨h, rfl⟩, okR.ok q rp (.int _)⟩
    · exact q.elim
  · cases rx with
    | cons r1 r2 =>
    cases r2
    cases r1 with
    | @ref n a hn =>
    split at q
    · rename_i ys e0
      obtain ⟨ws, ha, hw⟩ := lst_of rp hn e0
      exact .inl ⟨_, ws.length, rfl, .inl ⟨ws, SqL.of ha, rfl⟩, by rw [← hw.length]; exact okR.ok q rp (.int _)⟩
    · rename_i ys e0
      obtain ⟨o, ws, ha, hw⟩ := rp.cell _ _ a e0 hn
      exact .inl ⟨_, ws.length, rfl, .inl ⟨ws, .inl (.inr ⟨o, ha⟩), rfl⟩, by rw [← hw.length]; exact okR.ok q rp (.int _)⟩
    · rename_i kvs e0
      obtain ⟨ws, ha, hw⟩ := rp.cell _ _ a e0 hn
      exact .inr ⟨a, ws, rfl, ha, by rw [← hw.length]; exact okR.ok q rp (.int _)⟩
    · exact q.elim
  · exact q.elim
def bInt (xs : List D) (st : Store) : R D := match xs with
  | [.int i] => .ok (.int i) st
  | [.bl k] => .ok (.int (if k then 1 else 0)) st
  | _ => .bad
theorem f_int : FitsL G (fun xs H Q => (∃ i, xs = [.int i] ∧ Q (.int i) H) ∨ ∃ k, xs = [.bl k] ∧ Q (.int (if k then 1 else 0)) H) bInt := by
  intro W ι st H σ xs vs Q rp rx q
  unfold bInt at q
  split at q
  · cases rx with
    | cons r1 r2 =>
    cases r2
    cases r1
    exact .inl ⟨_, rfl, okR.ok q rp (.int _)⟩
  · cases rx with
    | cons r1 r2 =>
    cases r2
    cases r1
    exact .inr ⟨_, rfl, okR.ok q rp (.int _)⟩
  · exact q.elim
def bMax (xs : List D) (st : Store) : R D := match xs with
  | [.int i, .int j] => .ok (.int (if j > i then j else i)) st
  | _ => .bad
def bMin (xs : List D) (st : Store) : R D := match xs with
  | [.int i, .int j] => .ok (.int (if j < i then j else i)) st
  | _ => .bad
theorem f_max : FitsL G (fun xs H Q => ∃ i j, xs = [.int i, .int j] ∧ Q (.int (if j > i then j else i)) H) bMax := by
  intro W ι st H σ xs vs Q rp rx q
  unfold bMax at q
  split at q
  · cases rx with
    | cons r1 r2 =>
    cases r2 with
    | cons r2 r3 =>
    cases r3
    cases r1
    cases r2
    exact ⟨_, _, rfl, okR.ok q rp (.int _)⟩
  · exact q.elim
theorem f_min : FitsL G (fun xs H Q => ∃ i j, xs = [.int i, .int j] ∧ Q (.int (if j < i then j else i)) H) bMin := by
  intro W ι st H σ xs vs Q rp rx q
  unfold bMin at q
  split at q
  · cases rx with
    | cons r1 r2 =>
    cases r2 with
    | cons r2 r3 =>
    cases r3
    cases r1
    cases r2
    exact ⟨_, _, rfl, okR.ok q rp (.int _)⟩
  · exact q.elim
def bAbs (xs : List D) (st : Store) : R D := match xs with
  | [.int i] => .ok (.int (if i < 0 then -i else i)) st
  | _ => .bad
theorem f_abs : FitsL G (fun xs H Q => ∃ i, xs = [.int i] ∧ Q (.int (if i < 0 then -i else i)) H) bAbs := by
  intro W ι st H σ xs vs Q rp rx q
  unfold bAbs at q
  split at q
  · cases rx with
    | cons r1 r2 =>
    cases r2
    cases r1
    exact ⟨_, rfl, okR.ok q rp (.int _)⟩
  · exact q.elim
def bList (xs : List D) (st : Store) : R D := match xs with
  | [.tup ys] => alloc (.lst ys) st
  | [.ref n] => (match st[n]? with
    | some (.lst ys) => alloc (.lst ys) st
    | some (.frz ys) => alloc (.lst ys) st
    | _ => .bad)
  | _ => .bad
theorem f_list : FitsL G (fun xs H Q => ∃ p ys, xs = [.ref p] ∧ (SqL G.K H p ys ∨ SqT G.K H p ys) ∧ ∀ l, H l = none → Q (.ref l) (upd H l (.lst ys))) bList := by
  intro W ι st H σ xs vs Q rp rx q
  unfold bList at q
  split at q
  · cases rx with
    | cons r1 r2 =>
    cases r2
    cases r1 with
    | @tup a ys vs ha hv =>
    exact ⟨a, vs, rfl, .inr (SqT.of ha), fun l hl => ok_alloc (c := .lst _) rp hl ⟨_, upd_same, hv.mono (Ext.push hl)⟩ q⟩
  · cases rx with
    | cons r1 r2 =>
    cases r2
    cases r1 with
    | @ref n a hn =>
    split at q
    · rename_i ys e0
      obtain ⟨ws, ha, hw⟩ := lst_of rp hn e0
      exact ⟨a, ws, rfl, .inl (SqL.of ha), fun l hl => ok_alloc (c := .lst ys) rp hl ⟨_, upd_same, hw.mono (Ext.push hl)⟩ q⟩
    · rename_i ys e0
      obtain ⟨o, ws, ha, hw⟩ := rp.cell _ _ a e0 hn
      exact ⟨a, ws, rfl, .inl (.inl (.inr ⟨o, ha⟩)), fun l hl => ok_alloc (c := .lst ys) rp hl ⟨_, upd_same, hw.mono (Ext.push hl)⟩ q⟩
    · exact q.elim
  · exact q.elim
def bTuple (xs : List D) (st : Store) : R D := match xs with
  | [.tup ys] => .ok (.tup ys) st
  | [.ref n] => (match st[n]? with
    | some (.lst ys) => .ok (.tup ys) st
    | some (.frz ys) => .ok (.tup ys) st
    | _ => .bad)
  | _ => .bad
theorem f_tuple : FitsL G (fun xs H Q => ∃ p ys, xs = [.ref p] ∧ ((SqL G.K H p ys ∧ ∀ l, H l = none → Q (.ref l) (upd H l (.tup ys))) ∨ (SqT G.K H p ys ∧ Q (.ref p) H))) bTuple := by
  intro W ι st H σ xs vs Q rp rx q
  unfold bTuple at q
  split at q
  · cases rx with
    | cons r1 r2 =>
    cases r2
    cases r1 with
    | @tup a ys vs ha hv =>
    exact ⟨a, vs, rfl, .inr ⟨SqT.of ha, okR.ok q rp (.tup ha hv)⟩⟩
  · cases rx with
    | cons r1 r2 =>
    cases r2
    cases r1 with
    | @ref n a hn =>
    split at q
    · rename_i ys e0
      obtain ⟨ws, ha, hw⟩ := lst_of rp hn e0
      exact ⟨a, ws, rfl, .inl ⟨SqL.of ha, fun l hl => q ι _ _ (Ext.fresh hl) (rp.fresh hl) (.tup upd_same (hw.mono (Ext.fresh hl)))⟩⟩
    · rename_i ys e0
      obtain ⟨o, ws, ha, hw⟩ := rp.cell _ _ a e0 hn
      exact ⟨a, ws, rfl, .inl ⟨.inl (.inr ⟨o, ha⟩), fun l hl => q ι _ _ (Ext.fresh hl) (rp.fresh hl) (.tup upd_same (hw.mono (Ext.fresh hl)))⟩⟩
    · exact q.elim
  · exact q.elim
/-- truths, whole numbers, texts of a list -/
def blsOf : List D → Option (List Bool)
  | [] => some []
  | .bl b :: xs => (blsOf xs).map (b :: ·)
  | _ :: _ => none
/-- the items of a list that stands (or the script) -/
def lstAt (o : D) (st : Store) : Option (List D) := match o with
  | .ref n => (match st[n]? with
    | some (.lst ys) => some ys
    | some (.frz ys) => some ys
    | _ => none)
  | _ => none
theorem lstAt_ok {o : D} {v : V} {ys : List D} (rp : Rep G ι st H) (r : RV G ι H o v) (e : lstAt o st = some ys) : ∃ a ws, v = .ref a ∧ SqL G.K H a ws ∧ RVs G ι H ys ws := by
  unfold lstAt at e
  split at e
  · cases r with
    | @ref n a hn =>
    split at e
    · rename_i e0
      cases e
      obtain ⟨ws, ha, hw⟩ := lst_of rp hn e0
      exact ⟨a, ws, rfl, SqL.of ha, hw⟩
    · rename_i e0
      cases e
      obtain ⟨o, ws, ha, hw⟩ := rp.cell _ _ a e0 hn
      exact ⟨a, ws, rfl, .inl (.inr ⟨o, ha⟩), hw⟩
    · cases e
  · cases e
def bAll (xs : List D) (st : Store) : R D := match xs with
  | [o] => (match (lstAt o st).bind blsOf with
    | some bs => .ok (.bl (bs.all id)) st
    | none => .bad)
  | _ => .bad
/-! ### isinstance of values that are no instances -/
def tyN (o : D) (st : Store) : Option String := match o with
  | .non => some "NoneType"
  | .bl _ => some "bool"
  | .int _ => some "int"
  | .str _ => some "str"
  | .tup _ => some "tuple"
  | .ref n => (match st[n]? with
    | some (.lst _) => some "list"
    | some (.frz _) => some "list"
    | some (.dK _) => some "dict"
    | some (.dT _) => some "dict"
    | _ => none)
  | _ => none
theorem tyN_ok {o : D} {v : V} {T : String} (rp : Rep G ι st H) (r : RV G ι H o v) (e : tyN o st = some T) : TyOf G.K H v (.type T) := by
  unfold tyN at e
  split at e
  · cases e; cases r; exact .non
  · cases e; cases r; exact .bl _
  · cases e; cases r; exact .int _
  · cases e; cases r; exact .str _
  · cases e
    cases r with
    | @tup a ys vs ha hv => exact .tup ha
  · cases r with
    | @ref n a hn =>
    split at e
    · rename_i e0
      cases e
      obtain ⟨ws, ha, hw⟩ := lst_of rp hn e0
      exact .lst ha
    · rename_i e0
      cases e
      obtain ⟨o, ws, ha, hw⟩ := rp.cell _ _ a e0 hn
      exact .frz ha
    · rename_i e0
      cases e
      obtain ⟨ws, ha, hw⟩ := rp.cell _ _ a e0 hn
      exact .dK ha
    · rename_i e0
      cases e
      obtain ⟨ws, ha, hw⟩ := rp.cell _ _ a e0 hn
      exact .dT ha
    · cases e
  · cases e
def tysOf : List D → Option (List String)
  | [] => some []
  | .ty n :: xs => (tysOf xs).map (n :: ·)
  | _ :: _ => none
def kitAnyB (a : String) : List String → Option Bool
  | [] => some false
  | n :: xs => (match kitB a n with
    | some true => some true
    | some false => kitAnyB a xs
    | none => none)
theorem tys_ok : ∀ {cs : List D} {ns : List String} {vs : List V}, RVs G ι H cs vs → tysOf cs = some ns → Paired ClsV vs (ns.map Value.type)
  | [], _, _, .nil, e => by simp [tysOf] at e; subst e; exact .nil
  | .ty n :: cs, _, _, .cons r t, e => by
    simp only [tysOf, Option.map_eq_some_iff] at e
    obtain ⟨ns, e1, e2⟩ := e
    subst e2
    cases r
    exact .cons (.ty n) (tys_ok t e1)
  | .non :: _, _, _, _, e => by simp [tysOf] at e
  | .int _ :: _, _, _, _, e => by simp [tysOf] at e
  | .bl _ :: _, _, _, _, e => by simp [tysOf] at e
  | .str _ :: _, _, _, _, e => by simp [tysOf] at e
  | .tup _ :: _, _, _, _, e => by simp [tysOf] at e
  | .ref _ :: _, _, _, _, e => by simp [tysOf] at e
  | .err _ _ :: _, _, _, _, e => by simp [tysOf] at e
  | .cl _ :: _, _, _, _, e => by simp [tysOf] at e
  | .scr _ :: _, _, _, _, e => by simp [tysOf] at e
theorem kitAnyB_ok {K : PySem.W.Frag} {T : String} : ∀ {ns : List String} {b : Bool}, kitAnyB T ns = some b → PySem.W.kitAny K (.type T) (ns.map Value.type) = some b
  | [], _, e => by simp [kitAnyB] at e; subst e; exact kitAny_nil
  | n :: ns, b, e => by
    unfold kitAnyB at e
    split at e
    · rename_i k
      cases e
      exact kitAny_cons (kit_ty k) (fun z => by cases z) (fun _ => rfl)
    · rename_i k
      exact kitAny_cons (kit_ty k) (fun _ => kitAnyB_ok e) (fun z => by cases z)
    · cases e
def bIsi (xs : List D) (st : Store) : R D := match xs with
  | [o, .ty n] => (match (tyN o st).bind fun T => kitB T n with
    | some b => .ok (.bl b) st
    | none => .bad)
  | [o, .tup cs] => (match (tyN o st).bind fun T => (tysOf cs).bind fun ns => kitAnyB T ns with
    | some b => .ok (.bl b) st
    | none => .bad)
  | _ => .bad
def rIsi1 (K : PySem.W.Frag) : List V → Hp → VK → Prop := fun xs H Q => rIsi K xs H Q ∨ rIsiT K xs H Q
theorem c_isi {X : Cx} : CallR X (.builtin "isinstance") (rIsi1 X.K) := call_isi.or call_isiT
theorem f_isi : FitsL G (rIsi1 G.K) bIsi := by
  intro W ι st H σ xs vs Q rp rx q
  unfold bIsi at q
  split at q
  · cases rx with
    | cons r1 r2 =>
    cases r2 with
    | cons r2 r3 =>
    cases r3
    cases r2
    split at q
    · rename_i b e
      obtain ⟨T, e1, e2⟩ := Option.bind_eq_some_iff.mp e
      exact .inl ⟨_, _, _, _, b, rfl, .ty _, .base (tyN_ok rp r1 e1), kit_ty e2, okR.ok q rp (.bl _)⟩
    · exact q.elim
  · cases rx with
    | cons r1 r2 =>
    cases r2 with
    | cons r2 r3 =>
    cases r3
    cases r2 with
    | @tup a ys vs ha hv =>
    split at q
    · rename_i b e
      obtain ⟨T, e1, e2⟩ := Option.bind_eq_some_iff.mp e
      obtain ⟨ns, e3, e4⟩ := Option.bind_eq_some_iff.mp e2
      exact .inr ⟨_, a, vs, _, _, b, rfl, ha, tys_ok hv e3, .base (tyN_ok rp r1 e1), kitAnyB_ok e4, okR.ok q rp (.bl _)⟩
    · exact q.elim
  · exact q.elim
/-! ### slices -/
end
section
variable {X : Cx} {G : Ctx} {W : WX} {e : Expr} {lo hi : Option Expr} {m : DE} {p2 pos : Pos}
abbrev DO := Env → Store → R (Option Int)
def dNoPart : DO := fun _ st => .ok none st
def dPart (m : DE) : DO := fun env st => (m env st).bind fun x st1 => match x with
  | .int i => .ok (some i) st1
  | _ => .bad
abbrev relO (_ : List Addr) (_ : Hp) (a b : Option Int) : Prop := a = b
def sO (G : Ctx) (W : WX) (m : DO) : TO := fun σ H Q => ∃ ι st env, Rep G ι st H ∧ REnv G ι H env σ ∧ okR G W ι H σ relO Q (m env st)
theorem _root_.L2.PO.imp {X : Cx} {e : Option Expr} {t t' : TO} (h : PO X e t) (k : ∀ σ H Q, t' σ H Q → t σ H Q) : PO X e t' := ⟨fun pins s σ H Q I q => h.run pins s σ H Q I (k σ H Q q)⟩
theorem r_noPart : PO X none (sO G W dNoPart) := po_none.imp fun σ H Q ⟨ι, st, env, rp, re, q⟩ => okR.ok q rp rfl
theorem r_part (h : PE X e (sE G W m)) : PO X (some e) (sO G W (dPart m)) := (po_some h).imp fun σ H Q ⟨ι, st, env, rp, re, q⟩ => ⟨ι, st, env, rp, re, okR.bind q fun x st1 ι1 H1 v e1 rp1 rv q1 => by
  cases rv with
  | int i => exact ⟨i, rfl, okR.ok q1 rp1 rfl⟩
  | _ => exact q1.elim⟩
def cutD (xs : List D) (lo hi : Option Int) : List D := (xs.drop (HT.sIx xs.length 0 lo)).take (HT.sIx xs.length xs.length hi - HT.sIx xs.length 0 lo)
theorem cut_RV {ι : List Addr} {H : Hp} {xs : List D} {vs : List V} (r : RVs G ι H xs vs) (lo hi : Option Int) : RVs G ι H (cutD xs lo hi) (cutV vs lo hi) := by
  unfold cutD cutV
  rw [r.length]
  exact (r.drop _).take _
def vSl (x : D) (lo hi : Option Int) (st : Store) : R D := match x with
  | .tup xs => .ok (.tup (cutD xs lo hi)) st
  | .str z => if z.length ≤ sizeLine then .ok (.str (cutS z lo hi)) st else .bad
  | .ref n => (match st[n]? with
    | some (.lst xs) => alloc (.lst (cutD xs lo hi)) st
    | some (.frz xs) => alloc (.lst (cutD xs lo hi)) st
    | _ => .bad)
  | _ => .bad
abbrev rSl1 (K : PySem.W.Frag) : V → Option Int → Option Int → Hp → VK → Prop := fun x lo hi H Q => rSlL K x lo hi H Q ∨ (rSlA K x lo hi H Q ∨ rSlS x lo hi H Q)
theorem s_sl : SlR X (rSl1 X.K) := sl_list.or (sl_tupA.or sl_str)
theorem cutV_whole {xs : List V} {lo hi : Option Int} (h : HT.sIx xs.length 0 lo = 0 ∧ HT.sIx xs.length xs.length hi = xs.length) : cutV xs lo hi = xs := by
  unfold cutV
  rw [h.1, h.2]
  simp
theorem f_sl {ι : List Addr} {st : Store} {H : Hp} {σ : L2.St} {Q : VK} {x : D} {v : V} {lo hi : Option Int} (rp : Rep G ι st H) (rx : RV G ι H x v) (q : okR G W ι H σ (RV G) Q (vSl x lo hi st)) : rSl1 G.K v lo hi H Q := by
  unfold vSl at q
  split at q
  · cases rx with
    | @tup a xs vs ha hv =>
    refine .inr (.inl ⟨a, vs, rfl, SqT.of ha, fun h => ?_, fun h p hp => ?_⟩)
    · refine okR.ok q rp (.tup ha ?_)
      have := cut_RV hv lo hi
      rw [cutV_whole h] at this
      exact this
    · exact q ι _ _ (Ext.fresh hp) (rp.fresh hp) (.tup upd_same ((cut_RV hv lo hi).mono (Ext.fresh hp)))
  · cases rx
    split at q
    · rename_i h
      exact .inr (.inr ⟨_, rfl, h, okR.ok q rp (.str _)⟩)
    · exact q.elim
  · cases rx with
    | @ref n a hn =>
    split at q
    · rename_i ys e0
      obtain ⟨ws, ha, hw⟩ := lst_of rp hn e0
      exact .inl ⟨a, ws, rfl, SqL.of ha, fun p hp => ok_alloc (c := .lst _) rp hp ⟨_, upd_same, (cut_RV hw lo hi).mono (Ext.push hp)⟩ q⟩
    · rename_i ys e0
      obtain ⟨o, ws, ha, hw⟩ := rp.cell _ _ a e0 hn
      exact .inl ⟨a, ws, rfl, .inl (.inr ⟨o, ha⟩), fun p hp => ok_alloc (c := .lst _) rp hp ⟨_, upd_same, (cut_RV hw lo hi).mono (Ext.push hp)⟩ q⟩
    · exact q.elim
  · exact q.elim
def dSl (m : DE) (ml mh : DO) : DE := fun env st => (m env st).bind fun x st1 => (ml env st1).bind fun lo st2 => (mh env st2).bind fun hi st3 => vSl x lo hi st3
theorem r_sl {ml mh : DO} (he : PE X e (sE G W m)) (hl : PO X lo (sO G W ml)) (hu : PO X hi (sO G W mh)) (hK : X.K = G.K := by rfl) : PE X (.Subscript e (.Slice lo hi none p2) pos) (sE G W (dSl m ml mh)) :=
  (pe_slice s_sl he hl hu).imp fun σ H Q ⟨ι, st, env, rp, re, q⟩ => ⟨ι, st, env, rp, re, okR.bind q fun x st1 ι1 H1 v e1 rp1 rv q1 => ⟨ι1, st1, env, rp1, re.mono e1, okR.bind q1 fun l st2 ι2 H2 l' e2 rp2 rl q2 =>
    ⟨ι2, st2, env, rp2, (re.mono e1).mono e2, okR.bind q2 fun h st3 ι3 H3 h' e3 rp3 rh q3 => by
      obtain rfl : l = l' := rl
      obtain rfl : h = h' := rh
      rw [hK]
      exact f_sl rp3 ((rv.mono e2).mono e3) q3⟩⟩⟩
def dNewT : DE := fun _ st => alloc (.dT []) st
end
end Dn
set_option Elab.async false
set_option linter.all false
set_option maxRecDepth 100000
set_option maxHeartbeats 1000000
/-! Dn4: statements, loops, comprehensions -/
namespace Dn
open PySem PySem.Spec L2
inductive RS where
  | nx (env : Env) (st : Store) | rt (d : D) (st : Store) | bk (env : Env) (st : Store) | ct (env : Env) (st : Store) | ex (x : Xc) (env : Env) (st : Store) | bad
abbrev DS := Env → Store → RS
def okS (G : Ctx) (W : WX) (ι : List Addr) (H : Hp) (D : Ends) : RS → Prop
  | .nx env st => ∀ ι' H' σ', Ext ι ι' H H' → Rep G ι' st H' → REnv G ι' H' env σ' → D.nx σ' H'
  | .bk env st => ∀ ι' H' σ', Ext ι ι' H H' → Rep G ι' st H' → REnv G ι' H' env σ' → D.bk σ' H'
  | .ct env st => ∀ ι' H' σ', Ext ι ι' H H' → Rep G ι' st H' → REnv G ι' H' env σ' → D.ct σ' H'
  | .rt d st => ∀ ι' H' v, Ext ι ι' H H' → Rep G ι' st H' → RV G ι' H' d v → D.rt v H'
  | .ex x env st => ∀ ι' H' σ' dd ws, Ext ι ι' H H' → Rep G ι' st H' → REnv G ι' H' env σ' → H' dd = some (.xd ws) → RFs G ι' H' x.fs ws → W (G.cls x.c) (some dd) σ' H'
  | .bad => False
theorem okS.mono {G : Ctx} {W : WX} {ι ι' : List Addr} {H H' : Hp} {D : Ends} {r : RS} (h : okS G W ι H D r) (e : Ext ι ι' H H') : okS G W ι' H' D r := by
  cases r with
  | nx env st => exact fun ι1 H1 σ1 e1 => h ι1 H1 σ1 (e.trans e1)
  | bk env st => exact fun ι1 H1 σ1 e1 => h ι1 H1 σ1 (e.trans e1)
  | ct env st => exact fun ι1 H1 σ1 e1 => h ι1 H1 σ1 (e.trans e1)
  | rt d st => exact fun ι1 H1 σ1 e1 => h ι1 H1 σ1 (e.trans e1)
  | ex x env st => exact fun ι1 H1 σ1 dd ws e1 => h ι1 H1 σ1 dd ws (e.trans e1)
  | bad => exact h
def sS (G : Ctx) (W : WX) (m : DS) : TS := fun D σ H => ∃ ι st env, Rep G ι st H ∧ REnv G ι H env σ ∧ okS G W ι H D (m env st)
def R.toS {α : Type} (m : R α) (env : Env) (f : α → Store → RS) : RS := match m with
  | .ok a st => f a st
  | .exc x st => .ex x env st
  | .bad => .bad
@[simp] theorem R.toS_ok {α : Type} (a : α) (st : Store) (env : Env) (f : α → Store → RS) : (R.ok a st).toS env f = f a st := rfl
@[simp] theorem R.toS_exc {α : Type} (x : Xc) (st : Store) (env : Env) (f : α → Store → RS) : (R.exc x st : R α).toS env f = .ex x env st := rfl
@[simp] theorem R.toS_bad {α : Type} (env : Env) (f : α → Store → RS) : (R.bad : R α).toS env f = .bad := rfl
theorem okS.lift {G : Ctx} {W : WX} {ι : List Addr} {H : Hp} {D : Ends} {α β : Type} {rel : List Addr → Hp → α → β → Prop} {P : β → Hp → Prop} {σ : L2.St} {env : Env} {m : R α} {f : α → Store → RS} (h : okS G W ι H D (m.toS env f)) (re : REnv G ι H env σ)
    (k : ∀ d st1 ι1 H1 v, Ext ι ι1 H H1 → Rep G ι1 st1 H1 → rel ι1 H1 d v → okS G W ι1 H1 D (f d st1) → P v H1) : okR G W ι H σ rel P m := by
  cases m with
  | ok d st => exact fun ι1 H1 v e r rv => k d st ι1 H1 v e r rv (okS.mono h e)
  | exc x st => exact fun ι1 H1 dd ws e r hx hf => h ι1 H1 σ dd ws e r (re.mono e) hx hf
  | bad => exact h
section
variable {X : Cx} {G : Ctx} {W : WX} {a b c e : Expr} {st : Stmt} {sts sts' rest : List Stmt} {m m' : DE} {n : DB} {ds ds' : DS} {pos : Pos}
def dNext : DS := fun env st => .nx env st
def dSeq (m m' : DS) : DS := fun env st => match m env st with
  | .nx env1 st1 => m' env1 st1
  | r => r
theorem r_nil : PSs X [] (sS G W dNext) := pss_nil.imp fun D σ H ⟨ι, st, env, rp, re, q⟩ => q ι H σ (Ext.refl _ _) rp re
theorem r_seq (h1 : PS X st (sS G W ds)) (h2 : PSs X rest (sS G W ds')) : PSs X (st :: rest) (sS G W (dSeq ds ds')) := (pss_cons h1 h2).imp fun D σ H ⟨ι, st, env, rp, re, q⟩ => by
  refine ⟨ι, st, env, rp, re, ?_⟩
  unfold dSeq at q
  cases h : ds env st with
  | nx env1 st1 =>
    rw [h] at q
    exact fun ι' H' σ' e r re' => ⟨ι', st1, env1, r, re', okS.mono q e⟩
  | bk env st => rw [h] at q; exact q
  | ct env st => rw [h] at q; exact q
  | rt d st => rw [h] at q; exact q
  | ex x env st => rw [h] at q; exact q
  | bad => rw [h] at q; exact q.elim
theorem r_last (h1 : PS X st (sS G W ds)) : PSs X [st] (sS G W ds) := pss_one h1
def dDrop (m : DE) : DS := fun env st => (m env st).toS env fun _ st1 => .nx env st1
theorem r_expr (he : PE X e (sE G W m)) (hs : swapsWith e none pos.line X.env = pure false := by rfl) : PS X (.Expr e pos) (sS G W (dDrop m)) := (ps_expr he hs).imp fun D σ H ⟨ι, st, env, rp, re, q⟩ =>
  ⟨ι, st, env, rp, re, okS.lift q re fun d st1 ι1 H1 v e1 rp1 rv q1 => q1 ι1 H1 σ (Ext.refl _ _) rp1 (re.mono e1)⟩
def dRet (m : DE) : DS := fun env st => (m env st).toS env fun d st1 => .rt d st1
theorem r_ret (he : PE X e (sE G W m)) : PS X (.Return (some e) pos) (sS G W (dRet m)) := (ps_ret he).imp fun D σ H ⟨ι, st, env, rp, re, q⟩ =>
  ⟨ι, st, env, rp, re, okS.lift q re fun d st1 ι1 H1 v e1 rp1 rv q1 => q1 ι1 H1 v (Ext.refl _ _) rp1 rv⟩
def dIf (n : DB) (m m' : DS) : DS := fun env st => (n env st).toS env fun k st1 => if k then m env st1 else m' env st1
theorem r_if (hc : PT X c (sT G W n)) (ha : PSs X sts (sS G W ds)) (hb : PSs X sts' (sS G W ds')) : PS X (.If c sts sts' pos) (sS G W (dIf n ds ds')) := (ps_if hc ha hb).imp fun D σ H ⟨ι, st, env, rp, re, q⟩ =>
  ⟨ι, st, env, rp, re, okS.lift q re fun k st1 ι1 H1 k' e1 rp1 rk q1 => by
    obtain rfl : k = k' := rk
    cases k with
    | true => exact iteT ⟨ι1, st1, env, rp1, re.mono e1, q1⟩
    | false => exact iteF ⟨ι1, st1, env, rp1, re.mono e1, q1⟩⟩
/-! ### targets -/
abbrev DG := D → Env → Store → R Env
abbrev DGs := List D → Env → Store → R Env
def okG (G : Ctx) (ws : List Nat) (σ : L2.St) (ι : List Addr) (H : Hp) (Q : L2.St → Hp → Prop) : R Env → Prop
  | .ok env st => ∀ ι' H' σ', Ext ι ι' H H' → Rep G ι' st H' → REnv G ι' H' env σ' → σ'.length = σ.length → (∀ i, i ∉ ws → σ'[i]? = σ[i]?) → Q σ' H'
  | _ => False
def sG (G : Ctx) (ws : List Nat) (g : DG) : TG := fun v σ H Q => ∃ ι st env d, Rep G ι st H ∧ REnv G ι H env σ ∧ RV G ι H d v ∧ okG G ws σ ι H Q (g d env st)
def sGs (G : Ctx) (ws : List Nat) (g : DGs) : TGs := fun vs σ H Q => ∃ ι st env ds, Rep G ι st H ∧ REnv G ι H env σ ∧ RVs G ι H ds vs ∧ okG G ws σ ι H Q (g ds env st)
theorem _root_.L2.PG.imp {X : Cx} {e : Expr} {t t' : TG} (h : PG X e t) (k : ∀ v σ H Q, t' v σ H Q → t v σ H Q) : PG X e t' := ⟨fun pins s σ H v u Q I r q => h.run pins s σ H v u Q I r (k v σ H Q q)⟩
theorem _root_.L2.PGs.imp {X : Cx} {e : List Expr} {t t' : TGs} (h : PGs X e t) (k : ∀ v σ H Q, t' v σ H Q → t v σ H Q) : PGs X e t' := ⟨fun pins s σ H v u Q I r q => h.run pins s σ H v u Q I r (k v σ H Q q)⟩
def gNm (i : Nat) : DG := fun d env st => .ok (env.set i (some d)) st
theorem t_name {i : Nat} (h : PG X e (gName i)) : PG X e (sG G [i] (gNm i)) := h.imp fun v σ H Q ⟨ι, st, env, d, rp, re, rv, q⟩ =>
  q ι H _ (Ext.refl _ _) rp (re.set rv) (by simp) (fun j hj => by rw [List.getElem?_set_ne]; intro z; exact hj (by simp [z]))
def gsNil : DGs := fun ds env st => match ds with
  | [] => .ok env st
  | _ => .bad
def gsCons (g : DG) (gs : DGs) : DGs := fun ds env st => match ds with
  | d :: ds => (match g d env st with
    | .ok env1 st1 => gs ds env1 st1
    | _ => .bad)
  | [] => .bad
theorem t_nil : PGs X [] (sGs G [] gsNil) := pgs_nil.imp fun vs σ H Q ⟨ι, st, env, ds, rp, re, rv, q⟩ => by
  unfold gsNil at q
  split at q
  · cases rv
    exact ⟨rfl, q ι H σ (Ext.refl _ _) rp re rfl fun _ _ => rfl⟩
  · exact q.elim
theorem t_cons {es : List Expr} {g : DG} {gs : DGs} {ws ws' : List Nat} (h1 : PG X e (sG G ws g)) (h2 : PGs X es (sGs G ws' gs))
    (hs : (assignEach (e :: es) X.env).map (·.2) = assign e X.env :: (assignEach es X.env).map (·.2) := by rfl) : PGs X (e :: es) (sGs G (ws ++ ws') (gsCons g gs)) := (pgs_cons h1 h2 hs).imp fun vs σ H Q ⟨ι, st, env, ds, rp, re, rv, q⟩ => by
  unfold gsCons at q
  split at q
  · rename_i d ds
    cases rv with
    | cons r1 r2 =>
    refine ⟨_, _, rfl, ι, st, env, _, rp, re, r1, ?_⟩
    split at q
    · rename_i env1 st1 eg
      rw [eg]
      intro ι1 H1 σ1 e1 rp1 re1 hl ha
      refine ⟨ι1, st1, env1, _, rp1, re1, r2.mono e1, ?_⟩
      cases hr : gs ds env1 st1 with
      | ok env2 st2 =>
        rw [hr] at q
        intro ι2 H2 σ2 e2 rp2 re2 hl2 ha2
        exact q ι2 H2 σ2 (e1.trans e2) rp2 re2 (hl2.trans hl) fun i hi => (ha2 i (fun z => hi (List.mem_append_right _ z))).trans (ha i (fun z => hi (List.mem_append_left _ z)))
      | exc x st => rw [hr] at q; exact q.elim
      | bad => rw [hr] at q; exact q.elim
    · exact q.elim
  · exact q.elim
def gTp (n : Nat) (gs : DGs) : DG := fun d env st => match d with
  | .tup xs => if xs.length = n then gs xs env st else .bad
  | _ => .bad
theorem t_tup {es : List Expr} {k : Nat} {gs : DGs} {ws : List Nat} {n : Nat} (hc : X.calm = true) (h : PGs X es (sGs G ws gs)) (hK : X.K = G.K := by rfl)
    (hn : (assignEach es X.env).length = n := by rfl) (hst : (assignEach es X.env).findIdx? (·.1) = none := by rfl) : PG X (.Tuple es k pos) (sG G ws (gTp n gs)) := (pg_tup hc h hn hst).imp fun v σ H Q ⟨ι, st, env, d, rp, re, rv, q⟩ => by
  unfold gTp at q
  split at q
  · split at q
    · rename_i hl
      cases rv with
      | @tup a xs vs ha hv =>
      exact ⟨a, vs, rfl, SqT.of ha, by rw [← hv.length]; exact hl, ι, st, env, _, rp, re, hv, q⟩
    · exact q.elim
  · exact q.elim
def gSb (mo mi : DE) : DG := fun d env st => (mo env st).bind fun o st1 => (mi env st1).bind fun i st2 => (vSet o i d st2).bind fun _ st3 => .ok env st3
theorem t_sub {o i : Expr} {mo mi : DE} (hu : X.A.units + 1 < cLine) (ho : PE X o (sE G W mo)) (hi : PE X i (sE G W mi))
    (ha : ∀ v, assign (.Subscript o i pos) X.env v = (do
      let ov ← holding [v] (eval o X.env)
      let iv ← holding [v, ov] (eval i X.env)
      standAt pos
      holding [v, ov, iv] (setItem ov iv v)
      release [v, ov, iv] []) := by intro _; rfl) : PG X (.Subscript o i pos) (sG G [] (gSb mo mi)) := (pg_sub ho hi (s_set hu) ha).imp fun v σ H Q ⟨ι, st, env, d, rp, re, rv, q⟩ => by
  unfold gSb at q
  refine ⟨ι, st, env, rp, re, ?_⟩
  cases h1 : mo env st with
  | ok o st1 =>
    rw [h1] at q
    intro ι1 H1 ov e1 rp1 ro
    refine ⟨ι1, st1, env, rp1, re.mono e1, ?_⟩
    rw [R.bind_ok] at q
    cases h2 : mi env st1 with
    | ok i st2 =>
      rw [h2] at q
      intro ι2 H2 iv e2 rp2 ri
      rw [R.bind_ok] at q
      refine f_set (W := W) (σ := σ) (x := d) rp2 (ro.mono e2) ri ((rv.mono e1).mono e2) ?_
      cases h3 : vSet o i d st2 with
      | ok u st3 =>
        rw [h3] at q
        intro ι3 H3 _ e3 rp3 _
        exact q ι3 H3 σ ((e1.trans e2).trans e3) rp3 (((re.mono e1).mono e2).mono e3) rfl fun _ _ => rfl
      | exc x st3 => rw [h3] at q; exact q.elim
      | bad => rw [h3] at q; exact q.elim
    | exc x st3 => rw [h2] at q; exact q.elim
    | bad => rw [h2] at q; exact q.elim
  | exc x st3 => rw [h1] at q; exact q.elim
  | bad => rw [h1] at q; exact q.elim
/-! ### assignments -/
def dAsg (m : DE) (g : DG) : DS := fun env st => (m env st).toS env fun d st1 => match g d env st1 with
  | .ok env2 st2 => .nx env2 st2
  | _ => .bad
theorem fit_asg {g : DG} {ws : List Nat} {D : Ends} {σ : L2.St} {H : Hp} (h : sS G W (dAsg m g) D σ H) : tAsg (sE G W m) (sG G ws g) D σ H := by
  obtain ⟨ι, st, env, rp, re, q⟩ := h
  refine ⟨ι, st, env, rp, re, okS.lift q re fun d st1 ι1 H1 v e1 rp1 rv q1 => ⟨ι1, st1, env, d, rp1, re.mono e1, rv, ?_⟩⟩
  split at q1
  · rename_i env2 st2 e
    rw [e]
    exact fun ι2 H2 σ2 e2 rp2 re2 _ _ => q1 ι2 H2 σ2 e2 rp2 re2
  · exact q1.elim
theorem r_asg {tg : Expr} {g : DG} {ws : List Nat} (he : PE X e (sE G W m)) (hg : PG X tg (sG G ws g)) (hs : swapsWithSole [tg] e pos.line X.env = pure false := by rfl) (hw : swappedStores [tg] e X.env = pure none := by rfl)
    (h1 : (assignEach [tg] X.env).map (·.2) = [assign tg X.env] := by rfl) : PS X (.Assign [tg] e pos) (sS G W (dAsg m g)) := (ps_asg he hg hs hw h1).imp fun _ _ _ h => fit_asg h
theorem r_set {i : Nat} {x : Str} {pos' : Pos} (hN : X.N.Nodup) (hi : X.N[i]? = some x) (hx : Loc X.env.scope x) (he : PE X e (sE G W m)) (hs : swapsWith e (some (.Name x pos')) pos.line X.env = pure false := by rfl) (hf : X.fn x = true ∨ X.env.scope.names.lookup x = some .local := by first | exact .inl rfl | exact .inr rfl | assumption) :
    PS X (.Assign [.Name x pos'] e pos) (sS G W (dAsg m (gNm i))) := (ps_set hN hi hx he hs hf).imp fun D σ H h => by
  obtain ⟨ι, st, env, rp, re, q⟩ := h
  exact ⟨ι, st, env, rp, re, okS.lift q re fun d st1 ι1 H1 v e1 rp1 rv q1 => q1 ι1 H1 _ (Ext.refl _ _) rp1 ((re.mono e1).set rv)⟩
/-! ### while -/
def FU : Nat := 1000000000
def whileL (n : DB) (m : DS) : Nat → DS
  | 0, _, _ => .bad
  | k + 1, env, st => (n env st).toS env fun b st1 => if b then (match m env st1 with
    | .nx env2 st2 => whileL n m k env2 st2
    | .ct env2 st2 => whileL n m k env2 st2
    | .bk env2 st2 => .nx env2 st2
    | r => r) else .nx env st1
def dWhile (n : DB) (m : DS) : DS := whileL n m FU
theorem r_while (hp : PassesOwn (model X.prog X.w) X.A X.env X.xe) (hc : PT X c (sT G W n)) (hb : PSs X sts (sS G W ds)) : PS X (.While c sts [] pos) (sS G W (dWhile n ds)) := (ps_while hp hc hb).imp fun D σ H ⟨ι, st, env, rp, re, q⟩ => by
  refine ⟨fun k σ H => ∃ ι st env, Rep G ι st H ∧ REnv G ι H env σ ∧ okS G W ι H D (whileL n ds k env st), ⟨FU, ι, st, env, rp, re, q⟩, ?_⟩
  rintro k σ H ⟨ι, st, env, rp, re, q⟩
  cases k with
  | zero => exact q.elim
  | succ k =>
    unfold whileL at q
    refine ⟨ι, st, env, rp, re, okS.lift q re fun b st1 ι1 H1 b' e1 rp1 rb q1 => ?_⟩
    obtain rfl : b = b' := rb
    cases b with
    | false => exact iteF (q1 ι1 H1 σ (Ext.refl _ _) rp1 (re.mono e1))
    | true =>
      refine iteT ⟨fun σ H => ∃ ι st env, Rep G ι st H ∧ REnv G ι H env σ ∧ okS G W ι H D (whileL n ds k env st), fun σ' H' h => ⟨k, Nat.lt_succ_self _, h⟩, ι1, st1, env, rp1, re.mono e1, ?_⟩
      rw [if_pos rfl] at q1
      cases h : ds env st1 with
      | nx env2 st2 => rw [h] at q1; exact fun ι2 H2 σ2 e2 rp2 re2 => ⟨ι2, st2, env2, rp2, re2, okS.mono q1 e2⟩
      | ct env2 st2 => rw [h] at q1; exact fun ι2 H2 σ2 e2 rp2 re2 => ⟨ι2, st2, env2, rp2, re2, okS.mono q1 e2⟩
      | bk env2 st2 => rw [h] at q1; exact q1
      | rt d st2 => rw [h] at q1; exact q1
      | ex x env2 st2 => rw [h] at q1; exact q1
      | bad => rw [h] at q1; exact q1.elim
/-! ### what is walked -/
/-- the lists that are walked stand as they stood (told by their lengths and items) -/
def isLst (st : Store) (n : Nat) (xs : List D) : Bool := match st[n]? with
  | some (.lst ys) => decide (ys = xs)
  | some (.frz ys) => decide (ys = xs)
  | _ => false
abbrev DI := Env → Store → R (List D × (Store → Bool))
structure Walks (G : Ctx) (ι : List Addr) (H : Hp) (its : List D × (Store → Bool)) (J : It) : Prop where
  goes : ∀ i x ι' st' H', Ext ι ι' H H' → Rep G ι' st' H' → its.2 st' = true → its.1[i]? = some x → J.go i H' ∧ ∀ v H'', J.yld i H' v H'' → Ext ι' ι' H' H'' ∧ Rep G ι' st' H'' ∧ RV G ι' H'' x v
  stops : ∀ ι' st' H', Ext ι ι' H H' → Rep G ι' st' H' → its.2 st' = true → J.stop its.1.length H'
def sI (G : Ctx) (W : WX) (m : DI) : TI := fun σ H Rq => ∃ ι st env, Rep G ι st H ∧ REnv G ι H env σ ∧ okR G W ι H σ (Walks G) Rq (m env st)
theorem _root_.L2.PI.imp {X : Cx} {tg e : Expr} {t t' : TI} (h : PI X tg e t) (k : ∀ σ H Q, t' σ H Q → t σ H Q) : PI X tg e t' := ⟨fun pins s σ H Q I q => h.run pins s σ H Q I (k σ H Q q)⟩
def forL (chk : Store → Bool) (g : DG) (m : DS) : List D → DS
  | [], env, st => if chk st then .nx env st else .bad
  | x :: xs, env, st => if chk st then (match g x env st with
    | .ok env1 st1 => (match m env1 st1 with
      | .nx env2 st2 => forL chk g m xs env2 st2
      | .ct env2 st2 => forL chk g m xs env2 st2
      | .bk env2 st2 => .nx env2 st2
      | r => r)
    | _ => .bad) else .bad
def dFor (it : DI) (g : DG) (m : DS) : DS := fun env st => (it env st).toS env fun its st1 => forL its.2 g m its.1 env st1
theorem r_for {tg iter : Expr} {it : DI} {g : DG} {ws : List Nat} (hp : PassesOwn (model X.prog X.w) X.A X.env X.xe) (hc : X.calm = true) (hi : PI X tg iter (sI G W it)) (hg : PG X tg (sG G ws g)) (hb : PSs X sts (sS G W ds))
    (hs : ∀ x, foldedSetIterable iter X.env x = pure x := by intro _; rfl) : PS X (.For tg iter sts [] pos) (sS G W (dFor it g ds)) := (ps_for hp hc hi hg hb hs).imp fun D σ H ⟨ι, st, env, rp, re, q⟩ => by
  refine ⟨ι, st, env, rp, re, okS.lift q re fun its st1 ι1 H1 J e1 rp1 wk q1 => ?_⟩
  refine ⟨fun i k σ H => ∃ ι' st' env', Ext ι1 ι' H1 H ∧ Rep G ι' st' H ∧ REnv G ι' H env' σ ∧ k = its.1.length - i ∧ i ≤ its.1.length ∧ okS G W ι' H D (forL its.2 g ds (its.1.drop i) env' st'),
    ⟨its.1.length, ι1, st1, env, Ext.refl _ _, rp1, re.mono e1, by simp, Nat.zero_le _, by simpa using q1⟩, ?_⟩
  rintro i k σ' H' ⟨ι', st', env', e', rp', re', rfl, hi', q'⟩
  by_cases hlt : i < its.1.length
  · right
    rw [List.drop_eq_getElem_cons hlt] at q'
    unfold forL at q'
    split at q'
    · rename_i hck
      obtain ⟨hgo, hy⟩ := wk.goes i its.1[i] ι' st' H' e' rp' hck (by simp [hlt])
      refine ⟨hgo, fun σ H => ∃ ι' st' env', Ext ι1 ι' H1 H ∧ Rep G ι' st' H ∧ REnv G ι' H env' σ ∧ okS G W ι' H D (forL its.2 g ds (its.1.drop (i + 1)) env' st'), ?_, ?_⟩
      · rintro σ2 H2 ⟨ι2, st2, env2, e2, rp2, re2, q2⟩
        exact ⟨its.1.length - (i + 1), by omega, ι2, st2, env2, e2, rp2, re2, rfl, hlt, q2⟩
      · intro v H2 hv
        obtain ⟨e2, rp2, rv⟩ := hy v H2 hv
        refine ⟨ι', st', env', its.1[i], rp2, re'.mono e2, rv, ?_⟩
        cases hgv : g its.1[i] env' st' with
        | ok env3 st3 =>
          rw [hgv] at q'
          dsimp only at q'
          intro ι3 H3 σ3 e3 rp3 re3 _ _
          refine ⟨ι3, st3, env3, rp3, re3, ?_⟩
          have e23 := e2.trans e3
          cases hb : ds env3 st3 with
          | nx env4 st4 => rw [hb] at q'; exact fun ι4 H4 σ4 e4 rp4 re4 => ⟨ι4, st4, env4, (e'.trans e23).trans e4, rp4, re4, okS.mono q' (e23.trans e4)⟩
          | ct env4 st4 => rw [hb] at q'; exact fun ι4 H4 σ4 e4 rp4 re4 => ⟨ι4, st4, env4, (e'.trans e23).trans e4, rp4, re4, okS.mono q' (e23.trans e4)⟩
          | bk env4 st4 => rw [hb] at q'; exact okS.mono (W := W) (r := .bk env4 st4) (D := { D with bk := D.nx }) q' e23
          | rt d st4 => rw [hb] at q'; exact okS.mono (r := .rt d st4) q' e23
          | ex x env4 st4 => rw [hb] at q'; exact okS.mono (r := .ex x env4 st4) q' e23
          | bad => rw [hb] at q'; exact q'.elim
        | exc x st3 => rw [hgv] at q'; exact q'.elim
        | bad => rw [hgv] at q'; exact q'.elim
    · exact q'.elim
  · left
    have hi2 : i = its.1.length := by omega
    subst hi2
    rw [List.drop_length] at q'
    unfold forL at q'
    split at q'
    · rename_i hck
      exact ⟨wk.stops ι' st' H' e' rp' hck, q' ι' H' σ' (Ext.refl _ _) rp' re'⟩
    · exact q'.elim
/-! ### comprehensions -/
def lcL (chk : Store → Bool) (g : DG) (tt : DB) (te : DE) (env : Env) : List D → List D → Store → R (List D)
  | [], acc, st => if chk st then .ok acc st else .bad
  | x :: xs, acc, st => if chk st then (match g x env st with
    | .ok env1 st1 => (match tt env1 st1 with
      | .ok true st2 => (match te env1 st2 with
        | .ok y st3 => if acc.length < sizeLine then lcL chk g tt te env xs (acc ++ [y]) st3 else .bad
        | _ => .bad)
      | .ok false st2 => lcL chk g tt te env xs acc st2
      | _ => .bad)
    | _ => .bad) else .bad
def dLc (it : DI) (g : DG) (tt : DB) (te : DE) (vs : List Nat) : DE := fun env st => (it env st).bind fun its st1 => (lcL its.2 g tt te (dWipe env vs) its.1 [] st1).bind fun acc st2 => alloc (.lst acc) st2
theorem wipe_agree {σ σ' : L2.St} {vs : List Nat} (hl : σ'.length = σ.length) (ha : ∀ i, i ∉ vs → σ'[i]? = σ[i]?) : L2.wipe σ' vs = L2.wipe σ vs := by
  apply List.ext_getElem?
  intro i
  by_cases hi : i ∈ vs
  · have key : ∀ (τ : L2.St) (us : List Nat), i ∈ us → (L2.wipe τ us)[i]? = if i < τ.length then some none else none := by
      intro τ us
      induction us with
      | nil => intro h; cases h
      | cons u us ih =>
        intro h
        unfold L2.wipe
        by_cases e : u = i
        · subst e
          rw [List.getElem?_set, if_pos rfl, L2.wipe_length]
        · rw [List.getElem?_set_ne e]
          rcases List.mem_cons.mp h with h | h
          · exact absurd h.symm e
          · exact ih h
    rw [key _ _ hi, key _ _ hi, hl]
  · rw [L2.wipe_out hi, L2.wipe_out hi]
    exact ha i hi
theorem wipe_wipe {σ : L2.St} {vs : List Nat} : L2.wipe (L2.wipe σ vs) vs = L2.wipe σ vs := wipe_agree (L2.wipe_length _ _) fun i hi => L2.wipe_out hi
theorem lst_pl {vs : List V} : (∀ xs, HO.lst vs ≠ .tup xs) ∧ (∀ fs, HO.lst vs ≠ .xd fs) ∧ ∀ o w, HO.lst vs ≠ .frz o w := ⟨fun _ z => (by cases z), fun _ z => (by cases z), fun _ _ z => (by cases z)⟩
abbrev W0 : WX := fun _ _ _ _ => False
def dYes : DB := fun _ st => .ok true st
theorem r_pts0 : PTs X [] (sT G W dYes) := ⟨fun pins s σ H Q I ⟨ι, st, env, rp, re, q⟩ => (pts_nil (X := X)).run pins s σ H Q I (okR.ok q rp rfl)⟩
theorem r_pts1 (h : PT X c (sT G W n)) : PTs X [c] (sT G W n) := pts_one h
/-- the loop of a comprehension: what its W asks -/
theorem lc_fit {its : List D × (Store → Bool)} {g : DG} {ws vs : List Nat} {tt : DB} {te : DE} {J : It} {ι1 : List Addr} {st1 : Store} {H1 : Hp} {env : Env} {σ : L2.St} {Q : VK} {Dn : Addr} (hws : ∀ i ∈ ws, i ∈ vs)
    (wk : Walks G ι1 H1 its J) (rp1 : Rep G ι1 st1 H1) (re : REnv G ι1 H1 env σ) (hD : H1 Dn = none)
    (q : okR G W ι1 H1 σ (RV G) Q ((lcL its.2 g tt te (dWipe env vs) its.1 [] st1).bind fun acc st2 => alloc (.lst acc) st2)) :
    ∃ Wv : Nat → Nat → Hp → Prop, (∃ m, Wv 0 m (upd H1 Dn (.lst []))) ∧ ∀ i m H, Wv i m H →
      (J.stop i H ∧ Q (.ref Dn) H) ∨ (J.go i H ∧ ∃ Nx : Hp → Prop, (∀ H', Nx H' → ∃ m', m' < m ∧ Wv (i + 1) m' H') ∧ ∀ x H', J.yld i H x H' → sG G ws g x (L2.wipe σ vs) H' fun σ2 H2 => L2.wipe σ2 vs = L2.wipe σ vs ∧ sT G W0 tt σ2 H2 fun b H3 =>
        if b = true then sE G W0 te σ2 H3 fun y H4 => ∃ acc, H4 Dn = some (.lst acc) ∧ acc.length < sizeLine ∧ Nx (upd H4 Dn (.lst (acc ++ [y]))) else Nx H3) := by
  refine ⟨fun i m H => ∃ ι' st' acc accV, Ext ι1 ι' H1 H ∧ Rep G ι' st' H ∧ Dn ∉ ι' ∧ H Dn = some (.lst accV) ∧ RVs G ι' H acc accV ∧ m = its.1.length - i ∧ i ≤ its.1.length ∧
      okR G W ι1 H1 σ (RV G) Q ((lcL its.2 g tt te (dWipe env vs) (its.1.drop i) acc st').bind fun acc st2 => alloc (.lst acc) st2),
    ⟨its.1.length, ι1, st1, [], [], Ext.fresh hD, rp1.fresh hD, rp1.free hD, upd_same, .nil, by simp, Nat.zero_le _, by simpa using q⟩, ?_⟩
  rintro i m H ⟨ι', st', acc, accV, e', rp', hDn, hDv, ra, rfl, hi, q'⟩
  by_cases hlt : i < its.1.length
  · right
    rw [List.drop_eq_getElem_cons hlt] at q'
    unfold lcL at q'
    split at q'
    · rename_i hck
      obtain ⟨hgo, hy⟩ := wk.goes i its.1[i] ι' st' H e' rp' hck (by simp [hlt])
      refine ⟨hgo, fun H => ∃ ι' st' acc accV, Ext ι1 ι' H1 H ∧ Rep G ι' st' H ∧ Dn ∉ ι' ∧ H Dn = some (.lst accV) ∧ RVs G ι' H acc accV ∧ 
        okR G W ι1 H1 σ (RV G) Q ((lcL its.2 g tt te (dWipe env vs) (its.1.drop (i + 1)) acc st').bind fun acc st2 => alloc (.lst acc) st2), ?_, ?_⟩
      · rintro H2 ⟨ι2, st2, acc2, accV2, e2, rp2, hd2, hv2, ra2, q2⟩
        exact ⟨its.1.length - (i + 1), by omega, ι2, st2, acc2, accV2, e2, rp2, hd2, hv2, ra2, rfl, hlt, q2⟩
      · intro v H2 hv
        obtain ⟨e2, rp2, rv⟩ := hy v H2 hv
        obtain ⟨hd2, hv2⟩ := e2.stay hDn hDv
        refine ⟨ι', st', dWipe env vs, its.1[i], rp2, (((re.mono e').mono e2).wipe vs), rv, ?_⟩
        cases hgv : g its.1[i] (dWipe env vs) st' with
        | ok env3 st3 =>
          rw [hgv] at q'
          dsimp only at q'
          intro ι3 H3 σ3 e3 rp3 re3 hl3 ha3
          obtain ⟨hd3, hv3⟩ := e3.stay hd2 hv2
          refine ⟨(wipe_agree hl3 fun j hj => ha3 j fun z => hj (hws j z)).trans wipe_wipe, ι3, st3, env3, rp3, re3, ?_⟩
          cases htt : tt env3 st3 with
          | ok b st4 =>
            rw [htt] at q'
            intro ι4 H4 b' e4 rp4 rb
            obtain rfl : b = b' := rb
            obtain ⟨hd4, hv4⟩ := e4.stay hd3 hv3
            cases b with
            | false =>
              dsimp only at q'
              exact iteF ⟨ι4, st4, acc, accV, ((e'.trans e2).trans e3).trans e4, rp4, hd4, hv4, (ra.mono ((e2.trans e3).trans e4)), q'⟩
            | true =>
              dsimp only at q'
              refine iteT ⟨ι4, st4, env3, rp4, re3.mono e4, ?_⟩
              cases hte : te env3 st4 with
              | ok y st5 =>
                rw [hte] at q'
                dsimp only at q'
                intro ι5 H5 yv e5 rp5 ry
                obtain ⟨hd5, hv5⟩ := e5.stay hd4 hv4
                split at q'
                · rename_i hsz
                  have eall := (((e'.trans e2).trans e3).trans e4).trans e5
                  have ra5 := ra.mono (((e2.trans e3).trans e4).trans e5)
                  have pk : Imm ι5 ι5 H5 (upd H5 Dn (.lst (accV ++ [yv]))) := Imm.poke (xs := []) hv5 lst_pl
                  exact ⟨accV, hv5, by rw [← ra5.length]; exact hsz, ι5, st5, acc ++ [y], accV ++ [yv], eall.poke hD, rp5.poke hd5 hv5 lst_pl, hd5, upd_same, (ra5.append (.cons ry .nil)).monoI pk, q'⟩
                · exact q'.elim
              | exc x st5 => rw [hte] at q'; exact q'.elim
              | bad => rw [hte] at q'; exact q'.elim
          | exc x st4 => rw [htt] at q'; exact q'.elim
          | bad => rw [htt] at q'; exact q'.elim
        | exc x st3 => rw [hgv] at q'; exact q'.elim
        | bad => rw [hgv] at q'; exact q'.elim
    · exact q'.elim
  · left
    have hi2 : i = its.1.length := by omega
    subst hi2
    rw [List.drop_length] at q'
    unfold lcL at q'
    split at q'
    · rename_i hck
      refine ⟨wk.stops ι' st' H e' rp' hck, ?_⟩
      have z := (rp'.adopt (c := .lst acc) hDn ⟨accV, hDv, ra.monoI ⟨fun n a h => by rw [List.getElem?_append_left (List.getElem?_eq_some_iff.mp h).1, h], fun _ _ h => h, fun _ _ h => h, fun _ _ _ h => h⟩⟩)
      exact q' (ι' ++ [Dn]) H (.ref Dn) (e'.adopt hD) z (.ref (by rw [← rp'.len]; simp))
    · exact q'.elim
theorem fit_lc {g : DG} {ws vs : List Nat} {tt : DB} {te : DE} {it : DI} {σ : L2.St} {H : Hp} {Q : VK} (hws : ∀ i ∈ ws, i ∈ vs) (h : sE G W (dLc it g tt te vs) σ H Q) :
    tLc (sI G W it) (sG G ws g) (sT G W0 tt) (sE G W0 te) vs σ H Q := by
  obtain ⟨ι, st, env, rp, re, q⟩ := h
  exact ⟨ι, st, env, rp, re, okR.bind q fun its st1 ι1 H1 J e1 rp1 wk q1 Dn hD => lc_fit hws wk rp1 (re.mono e1) hD q1⟩
theorem r_lc {elt tg iter : Expr} {ifs : List Expr} {scope : Scope} {own : List (Str × Nat)} {it : DI} {g : DG} {ws : List Nat} {tt : DB} {te : DE} (hws : ∀ i ∈ ws, i ∈ own.map (·.2)) (hc : X.calm = true) (hN : X.N.Nodup) (hi : PI X tg iter (sI G W it)) (ok : BlkOk X.N X.env.scope scope own)
    (hg : ∀ (s : Shared) (H : Hp) (C : Addr) (cl : List (Str × Addr)) (fp : List Addr), PG (X.blk s H scope (compEnvC scope cl C X.env) fp) tg (sG G ws g)) (ht : ∀ (s : Shared) (H : Hp) (C : Addr) (cl : List (Str × Addr)) (fp : List Addr), PTs (X.blk s H scope (compEnvC scope cl C X.env) fp) ifs (sT G W0 tt))
    (he : ∀ (s : Shared) (H : Hp) (C : Addr) (cl : List (Str × Addr)) (fp : List Addr), PE (X.blk s H scope (compEnvC scope cl C X.env) fp) elt (sE G W0 te)) (hs : ∀ x, foldedSetIterable iter X.env x = pure x := by intro _; rfl) :
    PE X (.ListComp elt [⟨tg, iter, ifs, 0⟩] scope pos) (sE G W (dLc it g tt te (own.map (·.2)))) := (pe_lc hc hN hi ok hg ht he hs).imp fun _ _ _ h => fit_lc hws h
theorem r_setLc {i : Nat} {y : Str} {py spos : Pos} {elt tg iter : Expr} {ifs : List Expr} {scope : Scope} {own : List (Str × Nat)} {it : DI} {g : DG} {ws : List Nat} {tt : DB} {te : DE} (hws : ∀ i ∈ ws, i ∈ own.map (·.2)) (hc : X.calm = true) (hN : X.N.Nodup) (hy : X.N[i]? = some y) (hyl : X.env.scope.names.lookup y = some .local)
    (hsw : swapsWith (.ListComp elt [⟨tg, iter, ifs, 0⟩] scope pos) (some (.Name y py)) spos.line X.env = pure true) (hi : PI X tg iter (sI G W it)) (ok : BlkOk X.N X.env.scope scope own)
    (hg : ∀ (s : Shared) (H : Hp) (C : Addr) (cl : List (Str × Addr)) (fp : List Addr), PG (X.blk s H scope (compEnvC scope cl C X.env) fp) tg (sG G ws g)) (ht : ∀ (s : Shared) (H : Hp) (C : Addr) (cl : List (Str × Addr)) (fp : List Addr), PTs (X.blk s H scope (compEnvC scope cl C X.env) fp) ifs (sT G W0 tt))
    (he : ∀ (s : Shared) (H : Hp) (C : Addr) (cl : List (Str × Addr)) (fp : List Addr), PE (X.blk s H scope (compEnvC scope cl C X.env) fp) elt (sE G W0 te)) (hs : ∀ x, foldedSetIterable iter X.env x = pure x := by intro _; rfl) :
    PS X (.Assign [.Name y py] (.ListComp elt [⟨tg, iter, ifs, 0⟩] scope pos) spos) (sS G W (dAsg (dLc it g tt te (own.map (·.2))) (gNm i))) := (ps_setLc hc hN hy hyl hsw hi ok hg ht he hs).imp fun D σ H ⟨ι, st, env, rp, re, q⟩ => by
  refine fit_lc hws ⟨ι, st, env, rp, re, okS.lift q re fun d st1 ι1 H1 v e1 rp1 rv q1 => ?_⟩
  exact q1 ι1 H1 _ (Ext.refl _ _) rp1 ((re.mono e1).set rv)
end
end Dn
set_option Elab.async false
set_option linter.all false
set_option maxRecDepth 100000
set_option maxHeartbeats 1000000
/-! Dn5: what is walked -/
namespace Dn
open PySem PySem.Spec PyProof.Rows L2
/-! ### a list, a tuple, a text, by value -/
section
variable {X : Cx} {G : Ctx} {W : WX} {tg e : Expr}
def iAny (K : PySem.W.Frag) (te : TE) : TI := fun σ H R => te σ H fun v H1 => (∃ a, v = .ref a ∧ (∃ xs, SqL K H1 a xs) ∧ R (Itl K a) H1) ∨ (∃ a, v = .ref a ∧ (∃ xs, SqT K H1 a xs) ∧ R (Itt K a) H1) ∨ ∃ x, v = .str x ∧ R (Its x) H1
theorem pi_any {te : TE} (hl : PE X e te) : PI X tg e (iAny X.K te) := by
  refine ⟨fun pins s σ H R I h => ?_⟩
  refine thn (hl.run pins s σ H _ I h) fun v s1 ⟨x, H1, I1, r1, q1⟩ => ?_
  rcases q1 with ⟨a, e, ⟨xs, hq⟩, q⟩ | ⟨a, e, ⟨xs, hq⟩, q⟩ | ⟨x, ex, q⟩
  · subst e
    cases r1
    obtain ⟨its, rv, p, hz⟩ := I1.list hq
    refine wpAny_pyIter_list p.isList ?_
    refine ⟨s1.heap.objs.size, [s1.heap.objs.size], _, _, H1, rfl, I1.kept (t' := s1.toks) fun b o e => Heap.get?_push_of_some _ e, turn_list a _, ⟨_, Heap.get?_push_size _ rfl, rfl, rfl⟩, fun b hb => ?_, q⟩
    have e : b = s1.heap.objs.size := by simpa using hb
    subst e
    exact I1.fpOk (Nat.le_refl _) (I1.hok.fresh (Nat.le_refl _))
  · subst e
    cases r1
    obtain ⟨its, rv, p, hz⟩ := I1.tuple hq
    refine wpAny_pyIter_tuple (show s1.heap.IsTuple a its.toArray from p) ?_
    refine ⟨s1.heap.objs.size, [s1.heap.objs.size], _, _, H1, rfl, I1.kept (t' := s1.toks) fun b o e => Heap.get?_push_of_some _ e, turn_tuple a _, ⟨_, Heap.get?_push_size _ rfl, rfl, rfl⟩, fun b hb => ?_, q⟩
    have e : b = s1.heap.objs.size := by simpa using hb
    subst e
    exact I1.fpOk (Nat.le_refl _) (I1.hok.fresh (Nat.le_refl _))
  · subst ex
    obtain ⟨t, rfl⟩ := r1
    cases ha : x.cps.all (· < 128)
    · exact wpAny_pyIter_wide ha (pi_one (tk := s1.toks) I1 _ (turn_str _ x t "str_iterator" (.inr rfl)) ⟨_, Heap.get?_push_size _ rfl, rfl, rfl⟩ q)
    · exact wpAny_pyIter_ascii ha (pi_one (tk := s1.toks) I1 _ (turn_str _ x t "str_ascii_iterator" (.inl rfl)) ⟨_, Heap.get?_push_size _ rfl, rfl, rfl⟩ q)
end
section
variable {X : Cx} {G : Ctx} {W : WX} {tg e : Expr} {ι : List Addr} {H : Hp} {st : Store}
theorem isLst_at {st : Store} {n : Nat} {xs : List D} (rp : Rep G ι st H) (h : isLst st n xs = true) : ∀ a, ι[n]? = some a → ∃ vs, SqL G.K H a vs ∧ RVs G ι H xs vs := by
  intro a hn
  unfold isLst at h
  split at h
  · rename_i ys e
    obtain ⟨vs, ha, hv⟩ := rp.cell _ _ a e hn
    have : ys = xs := of_decide_eq_true h
    subst this
    exact ⟨vs, SqL.of ha, hv⟩
  · rename_i ys e
    obtain ⟨o, vs, ha, hv⟩ := rp.cell _ _ a e hn
    have : ys = xs := of_decide_eq_true h
    subst this
    exact ⟨vs, .inl (.inr ⟨o, ha⟩), hv⟩
  · cases h
theorem walks_list {n : Nat} {a : Addr} {xs : List D} (hn : ι[n]? = some a) : Walks G ι H (xs, fun st' => isLst st' n xs) (Itl G.K a) where
  goes := fun i x ι' st' H' e rp hck hx => by
    obtain ⟨vs, hq, hv⟩ := isLst_at rp hck a (e.ix hn)
    obtain ⟨v, h1, h2⟩ := hv.get hx
    refine ⟨⟨vs, v, hq, h1⟩, fun w H'' ⟨e1, e2⟩ => ?_⟩
    subst e1
    have e3 := e2 vs hq
    rw [h1] at e3
    cases e3
    exact ⟨Ext.refl _ _, rp, h2⟩
  stops := fun ι' st' H' e rp hck => by
    obtain ⟨vs, hq, hv⟩ := isLst_at rp hck a (e.ix hn)
    exact ⟨vs, hq, by rw [← hv.length]; exact Nat.le_refl _⟩
theorem walks_tup {a : Addr} {xs : List D} {vs : List V} (ha : H a = some (.tup vs)) (hv : RVs G ι H xs vs) : Walks G ι H (xs, fun _ => true) (Itt G.K a) where
  goes := fun i x ι' st' H' e rp hck hx => by
    obtain ⟨v, h1, h2⟩ := (hv.mono e).get hx
    have hq : SqT G.K H' a vs := SqT.of (e.tup _ _ ha)
    refine ⟨⟨vs, v, hq, h1⟩, fun w H'' ⟨e1, e2⟩ => ?_⟩
    subst e1
    have e3 := e2 vs hq
    rw [h1] at e3
    cases e3
    exact ⟨Ext.refl _ _, rp, h2⟩
  stops := fun ι' st' H' e rp hck => ⟨vs, SqT.of (e.tup _ _ ha), by rw [← hv.length]; exact Nat.le_refl _⟩
def strD (x : Str) : List D := x.cps.toList.map fun c => .str ⟨#[c]⟩
theorem walks_str {x : Str} : Walks G ι H (strD x, fun _ => true) (Its x) where
  goes := fun i y ι' st' H' e rp hck hx => by
    unfold strD at hx
    rw [List.getElem?_map] at hx
    cases hc : x.cps.toList[i]? with
    | none => rw [hc] at hx; cases hx
    | some c =>
      rw [hc] at hx
      cases hx
      have hi : i < x.cps.size := by
        have := (List.getElem?_eq_some_iff.mp hc).1
        simpa using this
      refine ⟨hi, fun w H'' ⟨e1, c', hc', e2⟩ => ?_⟩
      subst e1
      subst e2
      have : c' = c := by
        rw [← Array.getElem?_toList, hc] at hc'
        exact (Option.some.inj hc').symm
      subst this
      exact ⟨Ext.refl _ _, rp, .str _⟩
  stops := fun ι' st' H' e rp hck => by
    show x.cps.size ≤ (strD x).length
    unfold strD
    simp
theorem walks_rng (lo : Int) (n : Nat) : Walks G ι H ((List.range n).map fun i : Nat => D.int (lo + (i : Int)), fun _ => true) (Itr lo n) where
  goes := fun i y ι' st' H' e rp hck hx => by
    simp only [List.getElem?_map] at hx
    cases hc : (List.range n)[i]? with
    | none => rw [hc] at hx; cases hx
    | some c =>
      rw [hc] at hx
      have hi : i < n := by
        have := (List.getElem?_eq_some_iff.mp hc).1
        simpa using this
      rw [List.getElem?_range hi] at hc
      cases hc
      simp only [Option.map_some, Option.some.injEq] at hx
      subst hx
      refine ⟨hi, fun w H'' ⟨e1, e2⟩ => ?_⟩
      subst e1 e2
      exact ⟨Ext.refl _ _, rp, .int _⟩
  stops := fun ι' st' H' e rp hck => by
    show n ≤ _
    simp
end
/-! ### the denotations -/
def seqOf (x : D) (st : Store) : R (List D × (Store → Bool)) := match x with
  | .ref n => (match st[n]? with
    | some (.lst xs) => .ok (xs, fun st' => isLst st' n xs) st
    | some (.frz xs) => .ok (xs, fun st' => isLst st' n xs) st
    | _ => .bad)
  | .tup xs => .ok (xs, fun _ => true) st
  | .str x => .ok (strD x, fun _ => true) st
  | _ => .bad
def iVal (m : DE) : DI := fun env st => (m env st).bind seqOf
def rngD (i j : Int) : List D := (List.range (j - i).toNat).map fun k : Nat => D.int (i + (k : Int))
def smallR (i : Int) : Bool := decide (-(2 ^ 62) ≤ i) && decide (i < 2 ^ 62)
def iRange1 (m : DA) : DI := fun env st => (m env st).bind fun xs st1 => match xs with
  | [.int j] => if smallR j then .ok (rngD 0 j, fun _ => true) st1 else .bad
  | _ => .bad
def enumD : Nat → List D → List D
  | _, [] => []
  | k, x :: xs => .tup [.int (k : Nat), x] :: enumD (k + 1) xs
theorem enumD_get : ∀ (k : Nat) (xs : List D) (i : Nat), (enumD k xs)[i]? = xs[i]?.map fun x => .tup [.int ((k + i : Nat) : Int), x]
  | _, [], _ => by simp [enumD]
  | k, x :: xs, 0 => by simp [enumD]
  | k, x :: xs, i + 1 => by
    unfold enumD
    rw [List.getElem?_cons_succ, List.getElem?_cons_succ, enumD_get (k + 1) xs i]
    have e : k + 1 + i = k + (i + 1) := by omega
    rw [e]
theorem enumD_length (k : Nat) (xs : List D) : (enumD k xs).length = xs.length := by
  induction xs generalizing k with
  | nil => rfl
  | cons x xs ih => unfold enumD; simp [ih]
def seq2Of (x : D) (st : Store) : R (List D × (Store → Bool)) := match x with
  | .ref n => (match st[n]? with
    | some (.lst xs) => .ok (xs, fun st' => isLst st' n xs) st
    | some (.frz xs) => .ok (xs, fun st' => isLst st' n xs) st
    | _ => .bad)
  | .tup xs => .ok (xs, fun _ => true) st
  | _ => .bad
def iEnumD (m : DA) : DI := fun env st => (m env st).bind fun xs st1 => match xs with
  | [x] => (seq2Of x st1).bind fun its st2 => .ok (enumD 0 its.1, its.2) st2
  | _ => .bad
def zipD : List D → List D → List D
  | x :: xs, y :: ys => .tup [x, y] :: zipD xs ys
  | _, _ => []
def isTupD : D → Bool
  | .tup _ => true
  | _ => false
def iZipD (m : DA) : DI := fun env st => (m env st).bind fun xs st1 => match xs with
  | [x, y] => if isTupD x == isTupD y then (seq2Of x st1).bind fun a st2 => (seq2Of y st2).bind fun b st3 => .ok (zipD a.1 b.1, fun st' => a.2 st' && b.2 st') st3 else .bad
  | _ => .bad
section
variable {X : Cx} {G : Ctx} {W : WX} {tg e : Expr} {m : DE} {ma : DA} {p pos : Pos}
theorem r_iter (h : PE X e (sE G W m)) (hK : X.K = G.K := by rfl) : PI X tg e (sI G W (iVal m)) := (pi_any h).imp fun σ H R ⟨ι, st, env, rp, re, q⟩ => by
  refine ⟨ι, st, env, rp, re, okR.bind q fun x st1 ι1 H1 v e1 rp1 rv q1 => ?_⟩
  rw [hK]
  unfold seqOf at q1
  split at q1
  · cases rv with
    | @ref n a hn =>
    split at q1
    · rename_i xs e0
      obtain ⟨vs, ha, hv⟩ := rp1.cell _ _ a e0 hn
      exact .inl ⟨a, rfl, ⟨vs, SqL.of ha⟩, okR.ok (rel := Walks G) q1 rp1 (walks_list hn)⟩
    · rename_i xs e0
      obtain ⟨o, vs, ha, hv⟩ := rp1.cell _ _ a e0 hn
      exact .inl ⟨a, rfl, ⟨vs, .inl (.inr ⟨o, ha⟩)⟩, okR.ok (rel := Walks G) q1 rp1 (walks_list hn)⟩
    · exact q1.elim
  · cases rv with
    | tup ha hv => exact .inr (.inl ⟨_, rfl, ⟨_, SqT.of ha⟩, okR.ok (rel := Walks G) q1 rp1 (walks_tup ha hv)⟩)
  · cases rv
    exact .inr (.inr ⟨_, rfl, okR.ok (rel := Walks G) q1 rp1 walks_str⟩)
  · exact q1.elim
theorem smallR_ok {i : Int} (h : smallR i = true) : -(2 ^ 62) ≤ i ∧ i < 2 ^ 62 := by
  unfold smallR at h
  simpa using h
theorem rngD_walks {ι : List Addr} {H : Hp} (i j : Int) : Walks G ι H (rngD i j, fun _ => true) (Itr i (j - i).toNat) := walks_rng i (j - i).toNat
theorem r_range1 {a : Expr} (hg : Gl X "range") (hm : X.mg "range" = none) (ha : PA X [a] (sA G W ma)) (hs : starEach [a] X.env = [(false, eval a X.env)] := by rfl) : PI X tg (.Call (.Name "range" p) [a] [] pos) (sI G W (iRange1 ma)) := (pi_range1 hg hm ha hs).imp fun σ H R ⟨ι, st, env, rp, re, q⟩ => by
  refine ⟨ι, st, env, rp, re, okR.bind q fun xs st1 ι1 H1 vs e1 rp1 rvs q1 => ?_⟩
  split at q1
  · rename_i j
    cases rvs with
    | cons r rr =>
    cases rr
    cases r
    split at q1
    · rename_i h
      obtain ⟨h1, h2⟩ := smallR_ok h
      refine ⟨j, rfl, h1, h2, okR.ok (rel := Walks G) q1 rp1 ?_⟩
      have w := rngD_walks (G := G) (ι := ι1) (H := H1) 0 j
      rw [Int.sub_zero] at w
      exact w
    · exact q1.elim
  · exact q1.elim
end
/-! ### enumerate -/
set_option maxHeartbeats 4000000 in
theorem meets_enumerate_newT (l : Addr) (items : Array Value) (o : Obj) (n : Nat) (hc : o.cls = .type "tuple") (hd : o.data = .seq items n) :
    Meets (Builtin.«enumerate.__new__» ⟨[.type "enumerate", .ref l], []⟩) (fun _ R s => s.heap.get? l = some o ∧
      R (.ok (.ret (.ref (s.heap.push { cls := .type "tuple_iterator", data := .fields #[.ref l, .int 0 0] }).objs.size)))
        { s with heap := (s.heap.push { cls := .type "tuple_iterator", data := .fields #[.ref l, .int 0 0] }).push { cls := .type "enumerate", data := .fields #[.none, .bool false, .ref s.heap.objs.size, rawInt 0, .none, .none] } }) :=
  .of_wp fun prog w A R s h => by
    obtain ⟨hp, g, d, tk, os⟩ := s; obtain ⟨hl, h⟩ := h
    have hsub := sub_enumerate
    obtain ⟨c, dct, dt, sl⟩ := o
    replace hc : c = .type "tuple" := hc
    replace hd : dt = .seq items n := hd
    subst hc hd
    have hL : Heap.IsTuple (Shared.heap ⟨hp, g, d, tk, os⟩) l items := ⟨_, hl, rfl, n, rfl⟩
    wp_walk using AutoSeq1.wpAny_loadPart' hl
    refine wpAny_stack_any fun st => wpAny_pure ?_
    split
    · rename_i c _ _ _ _ _
      cases (c == Value.type "enumerate")
      · wp_walk using AutoSeq1.wpAny_loadPart' hl, wpAny_pyIter_tuple hL
        exact ⟨_, rfl, h⟩
      · wp_walk using AutoSeq1.wpAny_loadPart' hl, wpAny_pyIter_tuple hL
        exact ⟨_, rfl, h⟩
    · wp_walk using AutoSeq1.wpAny_loadPart' hl, wpAny_pyIter_tuple hL
      exact ⟨_, rfl, h⟩
section
variable {prog : Program} {w : World} {A : Around} {E : Value → Shared → Prop} {s : Shared}
theorem call_enumerate_tup {l : Addr} {items : Array Value} {Q : Value → Shared → Prop} (hL : s.heap.IsTuple l items)
    (h : ∀ h', IsEnum h' (s.heap.objs.size + 1) s.heap.objs.size 0 .none → h'.IsTupleIter s.heap.objs.size l 0 → h'.objs.size = s.heap.objs.size + 2 →
      (∀ b o, s.heap.get? b = some o → h'.get? b = some o) → Q (.ref (s.heap.objs.size + 1)) { s with heap := h' }) :
    wpAny (model prog w) A (call (.type "enumerate") [.ref l]) Q E s := by
  obtain ⟨o, hl, hc, n, hd⟩ := hL
  refine callType_new F.called_enumerate (by decide) (F.typeCall_enumerate_1 _) (F.newCall_enumerate_1 _) (fun obj => F.args_object_init_2 obj _) F.entry_enumerate_new
    (meets_enumerate_newT l items o n hc hd) ⟨hl, ?_⟩
  have hz : (s.heap.push { cls := .type "tuple_iterator", data := .fields #[.ref l, .int 0 0] }).objs.size = s.heap.objs.size + 1 := Heap.size_push ..
  show _ ∧ _
  rw [hz]
  have he : IsEnum ((s.heap.push { cls := .type "tuple_iterator", data := .fields #[.ref l, .int 0 0] }).push
      { cls := .type "enumerate", data := .fields #[.none, .bool false, .ref s.heap.objs.size, rawInt 0, .none, .none] }) (s.heap.objs.size + 1) s.heap.objs.size 0 .none := by
    have := Heap.get?_push_size (s.heap.push { cls := .type "tuple_iterator", data := .fields #[.ref l, .int 0 0] })
      (o := { cls := .type "enumerate", data := .fields #[.none, .bool false, .ref s.heap.objs.size, rawInt 0, .none, .none] }) rfl
    rw [hz] at this; exact this
  refine ⟨⟨_, he, rfl⟩, h _ he ⟨_, Heap.get?_push_of_some _ (Heap.get?_push_size _ rfl), rfl, rfl⟩ (by rw [Heap.size_push, hz]) fun b o x => Heap.get?_push_of_some _ (Heap.get?_push_of_some _ x)⟩
end
def IteT (K : PySem.W.Frag) (a : Addr) : It :=
  ⟨fun i H => ∃ (xs : List V) (x : V), SqT K H a xs ∧ xs[i]? = some x, fun i H v H' => ∃ T x, v = .ref T ∧ H T = none ∧ H' = upd H T (.tup [.int (i : Nat), x]) ∧ ∀ xs, SqT K H a xs → xs[i]? = some x, fun i H => ∃ xs : List V, SqT K H a xs ∧ xs.length ≤ i⟩
theorem turn_enumT {P : Program} {w : World} {K : PySem.W.Frag} {elts : List Expr} {kk : Nat} {tpos : Pos} (a e it : Addr) (hai : a ≠ it) :
    Turn P w K (.Tuple elts kk tpos) (IteT K a) [e, it] e (fun i h => (∃ old, IsEnum h e it ((i : Nat) : Int) old) ∧ h.IsTupleIter it a i ∧ e ≠ it) where
  mem := by simp
  obj := fun i h st b hb => by
    obtain ⟨⟨old, he⟩, ⟨o, ho, hc, hd⟩, _⟩ := st
    have e' : b = e ∨ b = it := by simpa using hb
    rcases e' with z | z
    · rw [z]; exact ⟨_, he, fun v q => nomatch q⟩
    · rw [z]; exact ⟨o, ho, fun v q => by rw [hd] at q; cases q⟩
  keep := fun i h h' st k => let ⟨⟨old, he⟩, hi, hne⟩ := st; ⟨⟨old, k e (by simp) _ he⟩, hi.at fun o q => k it (by simp) o q, hne⟩
  item := by
    intro X hP hw hK hc i pins s σ H E I hf st hg
    subst hP hw hK
    obtain ⟨⟨old, he⟩, hit, hne⟩ := st
    obtain ⟨xs, x, hq, hx⟩ := hg
    obtain ⟨its, rv, p, hz⟩ := I.tuple hq
    obtain ⟨u, hu, ru⟩ := rv.get hx
    have hel : e < s.heap.objs.size := Heap.lt_size he
    have hil : it < s.heap.objs.size := by obtain ⟨_, q, _⟩ := hit; exact Heap.lt_size q
    have hea : e ≠ a := fun z => by
      obtain ⟨o, q, qc, _⟩ := p
      rw [← z, he] at q
      cases q
      exact absurd (Value.type.inj (show Value.type "enumerate" = Value.type "tuple" from qc)) (by decide)
    have hli : i < its.toArray.size := by
      have := (List.getElem?_eq_some_iff.mp hu).1
      simpa using this
    refine wpAny_pyNext_enum_itemC (Draws.tuple (show X.A.in1.handled = none from I.ok.hd hc) it a hai its.toArray) he ⟨hit, p⟩ hli hne (by simp [hne, hea]) fun x' h' tk hP ho hit' hT hsz hk => ?_
    have hx' : x' = u := by
      have hP' : its.toArray[i]? = some x' := hP
      rw [List.getElem?_toArray, hu] at hP'
      exact (Option.some.inj hP').symm
    subst hx'
    refine ⟨_, rfl, wpAny_letOwnedTupleGo_enum (s := { s with heap := h', toks := tk + 1 }) ho fun h'' he' sb => ?_⟩
    have hT2 : h''.get? s.heap.objs.size = some { cls := .type "tuple", data := .seq #[.int i tk, x'] } := (sb.2 _ (Nat.ne_of_gt hel)).trans hT
    have new : ObjOk X.prog X.w (upd H s.heap.objs.size (.tup [.int (i : Nat), x])) h'' s.heap.objs.size (.tup [.int (i : Nat), x]) :=
      ⟨by show 2 ≤ sizeLine; decide, [.int i tk, x'], .cons ⟨_, rfl⟩ (.cons ru .nil), ⟨_, hT2, rfl, _, rfl⟩⟩
    have I1 : Inv X pins σ (upd H s.heap.objs.size (.tup [.int (i : Nat), x])) { s with heap := h'', toks := tk + 1 } :=
      I.turnedNew (ch := [e, it]) (fun b ob hb q => (sb.2 b (fun z => hb (by simp [z]))).trans (hk b ob (fun z => hb (by simp [z])) (fun z => hb (by simp [z])) q)) hf (Nat.le_refl _) new
    refine ⟨.ref s.heap.objs.size, _, I1, rfl, ⟨_, x, rfl, I.hok.fresh (Nat.le_refl _), rfl, fun ys hy => by rw [I.tuple_inj hy hq]; exact hx⟩, ⟨⟨x', ?_⟩, hit'.1.at fun o q => (sb.2 it (Ne.symm hne)).trans q, hne⟩, fun b hb => ?_⟩
    · have e1 : ((i + 1 : Nat) : Int) = (i : Int) + 1 := by omega
      rw [e1]; exact he'
    · have hb' : b < s.heap.objs.size := by
        have e' : b = e ∨ b = it := by simpa using hb
        rcases e' with z | z
        · rw [z]; exact hel
        · rw [z]; exact hil
      rw [upd_ne (Nat.ne_of_lt hb')]
      exact (hf b hb).1
  done := by
    intro X hP hw hK hc i pins s σ H E I hf st hg
    subst hP hw hK
    obtain ⟨⟨old, he⟩, hit, hne⟩ := st
    obtain ⟨xs, hq, hx⟩ := hg
    obtain ⟨its, rv, p, hz⟩ := I.tuple hq
    obtain ⟨f0, f1, f2, f3, f4, f5⟩ := hf it (by simp)
    have hl := rv.length
    unfold pyNext
    refine wpAny_bind (wpAny_attempt (wpAny_callSpecial?_slot (name := Str.ofString "__next__") ⟨_, he, rfl⟩ F.slot_enumerate_next
      (wpAny_call_entry F.slot_enumerate_next ⟨_, he, rfl⟩ F.entry_enumerate_next ?_ (F.args_enumerate_next_1 _))))
    show wpAny _ _ (field (.ref e) 2 >>= _) _ _ _
    refine wpAny_bind (wpAny_field he rfl (x := .ref it) rfl ?_)
    refine wpAny_bind (wpAny_nextOf_tuple_end (I.ok.hd hc) hit p (by simp; omega) fun h' x he' hx' => ?_)
    obtain ⟨o, ho, hcc⟩ := hx'
    refine wpAny_bind (wpAny_isInstance (T := "StopIteration") (b := true) ⟨o, ho, hcc⟩ isSubtype_stop ?_)
    exact wpAny_pure ⟨rfl, I.turned (t' := s.toks) (fun b o hb q => he' b o hb q) f0 f1 f3 f4 f5⟩
  self := fun A i s Q E st h => let ⟨⟨_, he⟩, _⟩ := st; wpAny_pyIter_enum he h
def iEnumA (K : PySem.W.Frag) (ta : TA) : TI := fun σ H R => ta σ H fun vs H1 => ∃ a, vs = [.ref a] ∧ (((∃ xs, SqL K H1 a xs) ∧ R (Ite K a) H1) ∨ ((∃ xs, SqT K H1 a xs) ∧ R (IteT K a) H1))
theorem pi_enumA {X : Cx} {e : Expr} {ta : TA} {p pos tpos : Pos} {elts : List Expr} {kk : Nat} (hg : Gl X "enumerate") (hm : X.mg "enumerate" = none) (ha : PA X [e] ta) (hs : starEach [e] X.env = [(false, eval e X.env)] := by rfl) :
    PI X (.Tuple elts kk tpos) (.Call (.Name "enumerate" p) [e] [] pos) (iEnumA X.K ta) := by
  refine ⟨fun pins s σ H R I h => ?_⟩
  refine Call_ (ld_blt I hg hm boot_enumerate (PyProof.Rows.callWith_type1 (thn (ha.run pos pins s σ H _ I h) fun us s1 ⟨vs, H1, I1, r1, q1⟩ => ?_) hs rfl))
  obtain ⟨a, ex, q1⟩ := q1
  subst ex
  cases r1 with
  | cons r rr =>
    cases rr
    cases r
    have hfr : ∀ b ∈ [s1.heap.objs.size + 1, s1.heap.objs.size], FpOk X pins H1 b := fun b hb => by
      have e' : b = s1.heap.objs.size + 1 ∨ b = s1.heap.objs.size := by simpa using hb
      have hle : s1.heap.objs.size ≤ b := by
        rcases e' with z | z
        · rw [z]; exact Nat.le_add_right _ _
        · rw [z]; exact Nat.le_refl _
      exact I1.fpOk hle (I1.hok.fresh hle)
    rcases q1 with ⟨⟨xs, hq⟩, q⟩ | ⟨⟨xs, hq⟩, q⟩
    · obtain ⟨its, rv, p', hz⟩ := I1.list hq
      refine call_enumerate_list p'.isList fun h' he hit hsz hk => wpAny_pyIter_enum he ?_
      have I2 : Inv X pins σ H1 { s1 with heap := h' } := I1.kept (t' := s1.toks) hk
      exact ⟨s1.heap.objs.size + 1, [s1.heap.objs.size + 1, s1.heap.objs.size], _, _, H1, rfl, I2, turn_enum a (s1.heap.objs.size + 1) s1.heap.objs.size, ⟨⟨.none, he⟩, hit, Nat.succ_ne_self _⟩, hfr, q⟩
    · obtain ⟨its, rv, p', hz⟩ := I1.tuple hq
      have hal : a < s1.heap.objs.size := by obtain ⟨o, ho, _⟩ := p'; exact Heap.lt_size ho
      refine call_enumerate_tup (show s1.heap.IsTuple a its.toArray from p') fun h' he hit hsz hk => wpAny_pyIter_enum he ?_
      have I2 : Inv X pins σ H1 { s1 with heap := h' } := I1.kept (t' := s1.toks) hk
      exact ⟨s1.heap.objs.size + 1, [s1.heap.objs.size + 1, s1.heap.objs.size], _, _, H1, rfl, I2, turn_enumT a (s1.heap.objs.size + 1) s1.heap.objs.size (Nat.ne_of_lt hal), ⟨⟨.none, he⟩, hit, Nat.succ_ne_self _⟩, hfr, q⟩
section
variable {X : Cx} {G : Ctx} {W : WX} {tg e : Expr} {m : DE} {ma : DA} {p pos tpos : Pos} {ι : List Addr} {H : Hp} {st : Store}
theorem walks_enum {n : Nat} {a : Addr} {xs : List D} (hn : ι[n]? = some a) : Walks G ι H (enumD 0 xs, fun st' => isLst st' n xs) (Ite G.K a) where
  goes := fun i x ι' st' H' e rp hck hx => by
    obtain ⟨vs, hq, hv⟩ := isLst_at rp hck a (e.ix hn)
    dsimp only at hx
    rw [enumD_get] at hx
    obtain ⟨y, hy, ey⟩ := Option.map_eq_some_iff.mp hx
    subst ey
    obtain ⟨v, h1, h2⟩ := hv.get hy
    refine ⟨⟨vs, v, hq, h1⟩, fun w H'' ⟨T, u, e0, hT, e1, e2⟩ => ?_⟩
    subst e0 e1
    have e3 := e2 vs hq
    rw [h1] at e3
    cases e3
    rw [Nat.zero_add]
    exact ⟨Ext.fresh hT, rp.fresh hT, .tup upd_same (.cons (.int _) (.cons (h2.mono (Ext.fresh hT)) .nil))⟩
  stops := fun ι' st' H' e rp hck => by
    obtain ⟨vs, hq, hv⟩ := isLst_at rp hck a (e.ix hn)
    exact ⟨vs, hq, by rw [← hv.length]; show _ ≤ (enumD 0 xs).length; rw [enumD_length]; exact Nat.le_refl _⟩
theorem walks_enumT {a : Addr} {xs : List D} {vs : List V} (ha : H a = some (.tup vs)) (hv : RVs G ι H xs vs) : Walks G ι H (enumD 0 xs, fun _ => true) (IteT G.K a) where
  goes := fun i x ι' st' H' e rp hck hx => by
    have hq : SqT G.K H' a vs := SqT.of (e.tup _ _ ha)
    dsimp only at hx
    rw [enumD_get] at hx
    obtain ⟨y, hy, ey⟩ := Option.map_eq_some_iff.mp hx
    subst ey
    obtain ⟨v, h1, h2⟩ := (hv.mono e).get hy
    refine ⟨⟨vs, v, hq, h1⟩, fun w H'' ⟨T, u, e0, hT, e1, e2⟩ => ?_⟩
    subst e0 e1
    have e3 := e2 vs hq
    rw [h1] at e3
    cases e3
    rw [Nat.zero_add]
    exact ⟨Ext.fresh hT, rp.fresh hT, .tup upd_same (.cons (.int _) (.cons (h2.mono (Ext.fresh hT)) .nil))⟩
  stops := fun ι' st' H' e rp hck => ⟨vs, SqT.of (e.tup _ _ ha), by rw [← hv.length]; show _ ≤ (enumD 0 xs).length; rw [enumD_length]; exact Nat.le_refl _⟩
theorem r_enum {elts : List Expr} {kk : Nat} (hg : Gl X "enumerate") (hm : X.mg "enumerate" = none) (ha : PA X [e] (sA G W ma)) (hs : starEach [e] X.env = [(false, eval e X.env)] := by rfl) (hK : X.K = G.K := by rfl) :
    PI X (.Tuple elts kk tpos) (.Call (.Name "enumerate" p) [e] [] pos) (sI G W (iEnumD ma)) := (pi_enumA hg hm ha hs).imp fun σ H R ⟨ι, st, env, rp, re, q⟩ => by
  refine ⟨ι, st, env, rp, re, okR.bind q fun xs st1 ι1 H1 vs e1 rp1 rvs q1 => ?_⟩
  rw [hK]
  split at q1
  · rename_i x
    cases rvs with
    | cons r rr =>
    cases rr
    unfold seq2Of at q1
    split at q1
    · cases r with
      | @ref n a hn =>
      refine ⟨a, rfl, ?_⟩
      split at q1
      · rename_i xs e0
        obtain ⟨vs, ha, hv⟩ := rp1.cell _ _ a e0 hn
        exact .inl ⟨⟨vs, SqL.of ha⟩, okR.ok (rel := Walks G) q1 rp1 (walks_enum hn)⟩
      · rename_i xs e0
        obtain ⟨o, vs, ha, hv⟩ := rp1.cell _ _ a e0 hn
        exact .inl ⟨⟨vs, .inl (.inr ⟨o, ha⟩)⟩, okR.ok (rel := Walks G) q1 rp1 (walks_enum hn)⟩
      · exact q1.elim
    · cases r with
      | tup ha hv => exact ⟨_, rfl, .inr ⟨⟨_, SqT.of ha⟩, okR.ok (rel := Walks G) q1 rp1 (walks_enumT ha hv)⟩⟩
    · exact q1.elim
  · exact q1.elim
/-! ### zip, reversed -/
theorem zipD_get : ∀ (xs ys : List D) (i : Nat) (z : D), (zipD xs ys)[i]? = some z → ∃ x y, xs[i]? = some x ∧ ys[i]? = some y ∧ z = .tup [x, y]
  | [], ys, i, z, h => by simp [zipD] at h
  | x :: xs, [], i, z, h => by simp [zipD] at h
  | x :: xs, y :: ys, 0, z, h => by
    simp [zipD] at h
    exact ⟨x, y, rfl, rfl, h.symm⟩
  | x :: xs, y :: ys, i + 1, z, h => by
    simp only [zipD, List.getElem?_cons_succ] at h ⊢
    exact zipD_get xs ys i z h
theorem zipD_length : ∀ (xs ys : List D), xs.length ≤ (zipD xs ys).length ∨ ys.length ≤ (zipD xs ys).length
  | [], ys => by simp [zipD]
  | x :: xs, [] => by simp [zipD]
  | x :: xs, y :: ys => by
    simp only [zipD, List.length_cons]
    rcases zipD_length xs ys with h | h
    · exact .inl (by omega)
    · exact .inr (by omega)
theorem walks_zip {n k : Nat} {a b : Addr} {xs ys : List D} (hn : ι[n]? = some a) (hk : ι[k]? = some b) : Walks G ι H (zipD xs ys, fun st' => isLst st' n xs && isLst st' k ys) (Itz G.K a b) where
  goes := fun i x ι' st' H' e rp hck hx => by
    rw [Bool.and_eq_true] at hck
    obtain ⟨vs, hq, hv⟩ := isLst_at rp hck.1 a (e.ix hn)
    obtain ⟨ws, hq', hv'⟩ := isLst_at rp hck.2 b (e.ix hk)
    obtain ⟨x1, y1, g1, g2, ez⟩ := zipD_get _ _ _ _ hx
    subst ez
    obtain ⟨v, h1, h2⟩ := hv.get g1
    obtain ⟨w, h3, h4⟩ := hv'.get g2
    refine ⟨⟨vs, ws, v, w, hq, hq', h1, h3⟩, fun z H'' ⟨T, u, u', e0, hT, e1, e2, e3⟩ => ?_⟩
    subst e0 e1
    have e4 := e2 vs hq
    have e5 := e3 ws hq'
    rw [h1] at e4
    rw [h3] at e5
    cases e4
    cases e5
    exact ⟨Ext.fresh hT, rp.fresh hT, .tup upd_same (.cons (h2.mono (Ext.fresh hT)) (.cons (h4.mono (Ext.fresh hT)) .nil))⟩
  stops := fun ι' st' H' e rp hck => by
    rw [Bool.and_eq_true] at hck
    obtain ⟨vs, hq, hv⟩ := isLst_at rp hck.1 a (e.ix hn)
    obtain ⟨ws, hq', hv'⟩ := isLst_at rp hck.2 b (e.ix hk)
    exact ⟨vs, ws, hq, hq', by rw [← hv.length, ← hv'.length]; exact zipD_length xs ys⟩
theorem walks_zipT {a b : Addr} {xs ys : List D} {vs ws : List V} (ha : H a = some (.tup vs)) (hv : RVs G ι H xs vs) (hb : H b = some (.tup ws)) (hv' : RVs G ι H ys ws) : Walks G ι H (zipD xs ys, fun _ => true && true) (RZ.ItzT G.K a b) where
  goes := fun i x ι' st' H' e rp hck hx => by
    have hq : SqT G.K H' a vs := SqT.of (e.tup _ _ ha)
    have hq' : SqT G.K H' b ws := SqT.of (e.tup _ _ hb)
    obtain ⟨x1, y1, g1, g2, ez⟩ := zipD_get _ _ _ _ hx
    subst ez
    obtain ⟨v, h1, h2⟩ := (hv.mono e).get g1
    obtain ⟨w, h3, h4⟩ := (hv'.mono e).get g2
    refine ⟨⟨vs, ws, v, w, hq, hq', h1, h3⟩, fun z H'' ⟨T, u, u', e0, hT, e1, e2, e3⟩ => ?_⟩
    subst e0 e1
    have e4 := e2 vs hq
    have e5 := e3 ws hq'
    rw [h1] at e4
    rw [h3] at e5
    cases e4
    cases e5
    exact ⟨Ext.fresh hT, rp.fresh hT, .tup upd_same (.cons (h2.mono (Ext.fresh hT)) (.cons (h4.mono (Ext.fresh hT)) .nil))⟩
  stops := fun ι' st' H' e rp hck => ⟨vs, ws, SqT.of (e.tup _ _ ha), SqT.of (e.tup _ _ hb), by rw [← hv.length, ← hv'.length]; exact zipD_length xs ys⟩
/-- what seq2Of found -/
theorem seq2_ok {x : D} {v : V} {its : List D × (Store → Bool)} {st st2 : Store} (rp : Rep G ι st H) (rv : RV G ι H x v) (e : seq2Of x st = .ok its st2) : st2 = st ∧ ∃ a, v = .ref a ∧
    ((isTupD x = false ∧ ∃ n vs, ι[n]? = some a ∧ SqL G.K H a vs ∧ RVs G ι H its.1 vs ∧ its.2 = fun st' => isLst st' n its.1) ∨ (isTupD x = true ∧ ∃ vs, H a = some (.tup vs) ∧ RVs G ι H its.1 vs ∧ its.2 = fun _ => true)) := by
  unfold seq2Of at e
  split at e
  · cases rv with
    | @ref n a hn =>
    split at e
    · rename_i xs e0
      obtain ⟨vs, ha, hv⟩ := rp.cell _ _ a e0 hn
      cases e
      exact ⟨rfl, a, rfl, .inl ⟨rfl, _, vs, hn, SqL.of ha, hv, rfl⟩⟩
    · rename_i xs e0
      obtain ⟨o, vs, ha, hv⟩ := rp.cell _ _ a e0 hn
      cases e
      exact ⟨rfl, a, rfl, .inl ⟨rfl, _, vs, hn, .inl (.inr ⟨o, ha⟩), hv, rfl⟩⟩
    · cases e
  · cases rv with
    | tup ha hv =>
      cases e
      exact ⟨rfl, _, rfl, .inr ⟨rfl, _, ha, hv, rfl⟩⟩
  · cases e
theorem r_zip {e2 : Expr} {elts : List Expr} {kk : Nat} (hg : Gl X "zip") (hm : X.mg "zip" = none) (ha : PA X [e, e2] (sA G W ma))
    (hs : starEach [e, e2] X.env = (false, eval e X.env) :: starEach [e2] X.env := by rfl) (hpl : (backTo pos (starEach [e2] X.env)).any (·.1) = false := by rfl) (hK : X.K = G.K := by rfl) :
    PI X (.Tuple elts kk tpos) (.Call (.Name "zip" p) [e, e2] [] pos) (sI G W (iZipD ma)) := (RZ.pi_zipA hg hm ha hs hpl).imp fun σ H R ⟨ι, st, env, rp, re, q⟩ => by
  refine ⟨ι, st, env, rp, re, okR.bind q fun xs st1 ι1 H1 vs e1 rp1 rvs q1 => ?_⟩
  rw [hK]
  split at q1
  · rename_i x y
    cases rvs with
    | cons r1 rr =>
    cases rr with
    | cons r2 rr =>
    cases rr
    split at q1
    · rename_i hxy
      have hxy : isTupD x = isTupD y := by simpa using hxy
      cases h1 : seq2Of x st1 with
      | bad => rw [h1] at q1; exact q1.elim
      | exc _ _ =>
        exfalso
        unfold seq2Of at h1
        split at h1
        · split at h1 <;> cases h1
        · cases h1
        · cases h1
      | ok a st2 =>
        rw [h1] at q1
        obtain ⟨e2, A, ev, k1⟩ := seq2_ok rp1 r1 h1
        subst e2
        rw [Dn.R.bind_ok] at q1
        cases h2 : seq2Of y st2 with
        | bad => rw [h2] at q1; exact q1.elim
        | exc _ _ =>
          exfalso
          unfold seq2Of at h2
          split at h2
          · split at h2 <;> cases h2
          · cases h2
          · cases h2
        | ok b st3 =>
          rw [h2] at q1
          obtain ⟨e3, B, ew, k2⟩ := seq2_ok rp1 r2 h2
          subst e3 ev ew
          rw [Dn.R.bind_ok] at q1
          obtain ⟨a1, a2⟩ := a
          obtain ⟨b1, b2⟩ := b
          rcases k1 with ⟨t1, n, vs, hn, hq, hv, ec⟩ | ⟨t1, vs, hq, hv, ec⟩
          · rcases k2 with ⟨t2, k, ws, hn2, hq2, hv2, ec2⟩ | ⟨t2, ws, hq2, hv2, ec2⟩
            · dsimp only at ec ec2 q1
              rw [ec, ec2] at q1
              exact ⟨A, B, vs, ws, rfl, .inl ⟨hq, hq2, okR.ok (rel := Walks G) q1 rp1 (walks_zip hn hn2)⟩⟩
            · rw [t1, t2] at hxy; cases hxy
          · rcases k2 with ⟨t2, k, ws, hn2, hq2, hv2, ec2⟩ | ⟨t2, ws, hq2, hv2, ec2⟩
            · rw [t1, t2] at hxy; cases hxy
            · dsimp only at ec ec2 q1
              rw [ec, ec2] at q1
              exact ⟨A, B, vs, ws, rfl, .inr ⟨SqT.of hq, SqT.of hq2, okR.ok (rel := Walks G) q1 rp1 (walks_zipT hq hv hq2 hv2)⟩⟩
    · exact q1.elim
  · exact q1.elim
end
end Dn
set_option Elab.async false
set_option linter.all false
set_option maxRecDepth 100000
set_option maxHeartbeats 1000000
/-! Dn6: parallel assignment, two clauses, calls, defs -/
namespace Dn
open PySem PySem.Spec PyProof.Rows L2
section
variable {X : Cx} {G : Ctx} {W : WX} {a b c e : Expr} {m : DE} {ma : DA} {p pos : Pos}
def dPar (is : List Nat) (ma : DA) : DS := fun env st => (ma env st).toS env fun ds st1 => if ds.length = is.length then .nx ((is.zip ds).foldl (fun env z => env.set z.1 (some z.2)) env) st1 else .bad
theorem r_par {i j : Nat} {x y : Str} {px py pt : Pos} {kt k2 pt2} (hc : X.calm = true) (hN : X.N.Nodup) (hi : X.N[i]? = some x) (hj : X.N[j]? = some y) (hij : i ≠ j)
    (hx : X.env.scope.names.lookup x = some .local) (hy : X.env.scope.names.lookup y = some .local) (ha : PA X [a, b] (sA G W ma))
    (hw : swappedStores [.Tuple [.Name x px, .Name y py] kt pt] (.Tuple [a, b] k2 pt2) X.env = pure (some [x, y]))
    (hs : swapsWithSole [.Tuple [.Name x px, .Name y py] kt pt] (.Tuple [a, b] k2 pt2) pos.line X.env = pure false := by rfl) :
    PS X (.Assign [.Tuple [.Name x px, .Name y py] kt pt] (.Tuple [a, b] k2 pt2) pos) (sS G W (dPar [i, j] ma)) := (ps_par hc hN hi hj hij hx hy ha hw hs).imp fun D σ H ⟨ι, st, env, rp, re, q⟩ => by
  refine ⟨ι, st, env, rp, re, okS.lift q re fun ds st1 ι1 H1 vs e1 rp1 rv q1 => ?_⟩
  split at q1
  · rename_i hl
    match ds, rv, hl with
    | [d1, d2], .cons r1 (.cons r2 .nil), _ => exact ⟨_, _, rfl, q1 ι1 H1 _ (Ext.refl _ _) rp1 (((re.mono e1).set r1).set r2)⟩
  · exact q1.elim
theorem r_par3 {i j l : Nat} {x y z : Str} {px py pz pt : Pos} {kt k2 pt2} (hc : X.calm = true) (hN : X.N.Nodup) (hi : X.N[i]? = some x) (hj : X.N[j]? = some y) (hl : X.N[l]? = some z) (hij : i ≠ j) (hil : i ≠ l) (hjl : j ≠ l)
    (hx : X.env.scope.names.lookup x = some .local) (hy : X.env.scope.names.lookup y = some .local) (hz : X.env.scope.names.lookup z = some .local) (ha : PA X [a, b, c] (sA G W ma))
    (hw : swappedStores [.Tuple [.Name x px, .Name y py, .Name z pz] kt pt] (.Tuple [a, b, c] k2 pt2) X.env = pure (some [x, y, z]))
    (hs : swapsWithSole [.Tuple [.Name x px, .Name y py, .Name z pz] kt pt] (.Tuple [a, b, c] k2 pt2) pos.line X.env = pure false := by rfl) :
    PS X (.Assign [.Tuple [.Name x px, .Name y py, .Name z pz] kt pt] (.Tuple [a, b, c] k2 pt2) pos) (sS G W (dPar [i, j, l] ma)) := (ps_par3 hc hN hi hj hl hij hil hjl hx hy hz ha hw hs).imp fun D σ H ⟨ι, st, env, rp, re, q⟩ => by
  refine ⟨ι, st, env, rp, re, okS.lift q re fun ds st1 ι1 H1 vs e1 rp1 rv q1 => ?_⟩
  split at q1
  · rename_i hl
    match ds, rv, hl with
    | [d1, d2, d3], .cons r1 (.cons r2 (.cons r3 .nil)), _ => exact ⟨_, _, _, rfl, q1 ι1 H1 _ (Ext.refl _ _) rp1 ((((re.mono e1).set r1).set r2).set r3)⟩
  · exact q1.elim
end
/-! ### calls of defs -/
abbrev DF := List D → Store → R D
def sF (G : Ctx) (m : DF) : Sp := fun vs H Q E => ∃ ι st xs, Rep G ι st H ∧ RVs G ι H xs vs ∧ okR G (fun c d _ H' => E c d H') ι H [] (RV G) Q (m xs st)
theorem okR.wish {G : Ctx} {W W' : WX} {ι : List Addr} {H : Hp} {σ σ' : L2.St} {α β : Type} {rel : List Addr → Hp → α → β → Prop} {Q : β → Hp → Prop} {r : R α} (h : okR G W ι H σ rel Q r) (hw : ∀ c d H', W c d σ H' → W' c d σ' H') : okR G W' ι H σ' rel Q r := by
  cases r with
  | ok d st => exact h
  | exc x st => exact fun ι1 H1 dd ws e r hx hf => hw _ _ _ (h ι1 H1 dd ws e r hx hf)
  | bad => exact h
section
variable {X : Cx} {G : Ctx} {W : WX} {e : Expr} {es : List Expr} {ma : DA} {m : DF} {x : Str} {k : Nat} {f : Addr} {fd : FuncData} {ps : List Str} {p pos : Pos}
theorem r_call (F : FnOk X.prog X.w X.K X.mg X.base (L2.CX X.prog X.w) k f fd ps (sF G m)) (hr : Room k X.A) (hg : Gl X x) (hm : X.mg x = some (.ref f)) (hk : PySem.W.keepIn X.K (.ref f) = true) (hb : Binds X.K fd ps []) (tk : Takes X W)
    (ha : PA X (e :: es) (sA G W ma)) (hdb : (x == ("__debug__" : Str)) = false := by decide) (he : starEach (e :: es) X.env = (false, eval e X.env) :: starEach es X.env := by rfl) (hpl : (backTo pos (starEach es X.env)).any (·.1) = false := by rfl) :
    PE X (.Call (.Name x p) (e :: es) [] pos) (sE G W (dCall m ma)) := (pe_callS F hr hg hm hk hb (passAt tk) ha hdb he hpl).imp fun σ H Q ⟨ι, st, env, rp, re, q⟩ => by
  refine ⟨ι, st, env, rp, re, okR.bind q fun xs st1 ι1 H1 vs e1 rp1 rvs q1 => ?_⟩
  exact ⟨ι1, st1, xs, rp1, rvs, q1.wish fun c d H' h => h⟩
end
/-- a def: n parameters, N slots -/
def dDef (n N : Nat) (m : DS) : DF := fun xs st => if xs.length = n then (match m (xs.map some ++ List.replicate (N - n) none) st with
  | .nx _ st1 => .ok .non st1
  | .rt d st1 => .ok d st1
  | .ex x _ st1 => .exc x st1
  | _ => .bad) else .bad
theorem fn_den {P : Program} {w : World} {K : PySem.W.Frag} {mg : Str → Option Value} {base : Heap} {x qual : Str} {params : Arguments} {body : List Stmt} {scope : Scope} {dvs : List V} {kws : List (Str × V)} {f : Addr} {fd : FuncData} {N ps : List Str} {k : Nat} {G : Ctx} {m : DS}
    (F : FunD K x qual params body scope dvs kws f fd) (S : FnScope N ps scope) 
    (hb : ∀ (cdv : Value) (A : Around) (outer : List PySem.Env) (s : Shared) (H : Hp) (E : XK), Room k (A.deeper (envOfC qual scope s.heap.objs.size f cdv)) →
      PSs (cxOf (L2.CX P w) P w K mg base N qual scope f cdv A outer s H E) body (sS G (fun c d _ H => E c d H) m)) :
    FnOk P w K mg base (L2.CX P w) (k + 1) f fd ps (sF G (dDef ps.length N.length m)) := by
  have len : ∀ vs H Q E, sF G (dDef ps.length N.length m) vs H Q E → vs.length = ps.length := fun vs H Q E ⟨ι, st, xs, rp, rvs, q⟩ => by
    unfold dDef at q
    split at q
    · rename_i h
      rw [← rvs.length, h]
    · exact q.elim
  refine F.ok S len fun cdv A outer s H vs Q E hr h => ⟨_, hb cdv A outer s H E hr, ?_⟩
  have hl := len vs H Q E h
  obtain ⟨ι, st, xs, rp, rvs, q⟩ := h
  unfold dDef at q
  rw [if_pos (by rw [rvs.length, hl])] at q
  refine ⟨ι, st, xs.map some ++ List.replicate (N.length - ps.length) none, rp, ?_, ?_⟩
  · refine ⟨?_, fun i d h => ?_⟩
    · unfold L2.start
      simp [rvs.length, hl]
    · by_cases hi : i < xs.length
      · rw [List.getElem?_append_left (by simpa using hi), List.getElem?_map] at h
        cases e : xs[i]? with
        | none => rw [e] at h; cases h
        | some y =>
          rw [e] at h
          cases h
          obtain ⟨v, h1, h2⟩ := rvs.get e
          refine ⟨v, ?_, h2⟩
          unfold L2.start
          rw [List.getElem?_append_left (by rw [List.length_map, ← rvs.length]; exact hi), List.getElem?_map, h1]
          rfl
      · rw [List.getElem?_append_right (by simpa using hi), List.getElem?_replicate] at h
        split at h <;> cases h
  · cases hm : m (xs.map some ++ List.replicate (N.length - ps.length) none) st with
    | nx env1 st1 =>
      rw [hm] at q
      exact fun ι' H' σ' e r _ => q ι' H' .non e r .non
    | rt d st1 =>
      rw [hm] at q
      exact q
    | ex xx env1 st1 =>
      rw [hm] at q
      exact fun ι' H' σ' dd ws e r _ h1 h2 => q ι' H' dd ws e r h1 h2
    | bk env1 st1 => rw [hm] at q; exact q.elim
    | ct env1 st1 => rw [hm] at q; exact q.elim
    | bad => rw [hm] at q; exact q.elim
/-- what is not reached -/
def dBad : DS := fun _ _ => .bad
end Dn
set_option Elab.async false
set_option linter.all false
set_option maxRecDepth 100000
set_option maxHeartbeats 1000000
/-! Dn7: dicts with tuples for keys: comprehensions, update -/
namespace Dn
open PySem PySem.Spec PyProof.Rows L2
/-! ### the denotation -/
end Dn
set_option Elab.async false
set_option linter.all false
set_option maxRecDepth 100000
set_option maxHeartbeats 1000000
/-! Dn8: dict.update, keys tuples -/
namespace Dn
open PySem PySem.Spec PyProof.Rows L2
def mergeT {α : Type} (kvs more : List (List Key × α)) (put : List (List Key × α) → List Key → α → List (List Key × α)) : List (List Key × α) := more.foldl (fun acc kv => put acc kv.1 kv.2) kvs
theorem KT.all {H : Hp} : ∀ {more : List (List Key × V)} {ys : List (List Key × Addr × Value)} {kvs : List (List Key × V)} {xs : List (List Key × Addr × Value)}, KT H more ys → KT H kvs xs → KT H (mergeT kvs more putK) (storedAllH xs ys)
  | [], _, _, _, .nil, h => h
  | (k, v) :: more, _, kvs, xs, .cons (b := (k', b, u)) ⟨e1, e2, e3⟩ t, h => by
    have e1 : k = k' := e1
    subst e1
    have z := KT.all t (h.put k e2 e3)
    exact z
theorem RKV.all {G : Ctx} {ι : List Addr} {H : Hp} : ∀ {more : List (List Key × D)} {ms : List (List Key × V)} {kvs : List (List Key × D)} {ws : List (List Key × V)}, RKV G ι H more ms → RKV G ι H kvs ws → RKV G ι H (mergeT kvs more putD) (mergeT ws ms putK)
  | [], _, _, _, .nil, h => h
  | (k, v) :: more, _, kvs, xs, .cons r t, h => by
    have z := RKV.all t (h.put k r)
    exact z
end Dn
set_option Elab.async false
set_option linter.all false
set_option maxRecDepth 100000
set_option maxHeartbeats 1000000
/-! Dn9: comprehensions of two clauses; list(range), list(zip), repr -/
namespace Dn
open PySem PySem.Spec PyProof.Rows L2
def R.must {α β : Type} (m : R α) (f : α → Store → R β) : R β := match m with
  | .ok a st => f a st
  | _ => .bad
@[simp] theorem R.must_ok {α β : Type} (a : α) (st : Store) (f : α → Store → R β) : (R.ok a st).must f = f a st := rfl
@[simp] theorem R.must_bad {α β : Type} (f : α → Store → R β) : (R.bad : R α).must f = .bad := rfl
@[simp] theorem R.must_exc {α β : Type} (x : Xc) (st : Store) (f : α → Store → R β) : (R.exc x st : R α).must f = .bad := rfl
/-- y is put behind the list in cell n -/
def push1 (n : Nat) (y : D) (st : Store) : R Unit := match st[n]? with
  | some (.lst acc) => if acc.length < sizeLine then .ok () (st.set n (.lst (acc ++ [y]))) else .bad
  | _ => .bad
def lcN (n : Nat) (chk : Store → Bool) (g : DG) (tt : DB) (te : DE) (env : Env) : List D → Store → R Unit
  | [], st => if chk st then .ok () st else .bad
  | x :: xs, st => if chk st then (g x env st).must fun env1 st1 => (tt env1 st1).must fun b st2 => if b then (te env1 st2).must fun y st3 => (push1 n y st3).must fun _ st4 => lcN n chk g tt te env xs st4 else lcN n chk g tt te env xs st2 else .bad
def lc2N (n : Nat) (chk : Store → Bool) (g : DG) (tt : DB) (it1 : DI) (g1 : DG) (tt1 : DB) (te : DE) (vs1 : List Nat) (env : Env) : List D → Store → R Unit
  | [], st => if chk st then .ok () st else .bad
  | x :: xs, st => if chk st then (g x env st).must fun env1 st1 => (tt env1 st1).must fun b st2 => if b then (it1 env1 st2).must fun its1 st3 => (lcN n its1.2 g1 tt1 te (dWipe env1 vs1) its1.1 st3).must fun _ st4 => lc2N n chk g tt it1 g1 tt1 te vs1 env xs st4 else lc2N n chk g tt it1 g1 tt1 te vs1 env xs st2 else .bad
def dLc2 (it : DI) (g : DG) (tt : DB) (it1 : DI) (g1 : DG) (tt1 : DB) (te : DE) (vs vs1 : List Nat) : DE := fun env st => (it env st).bind fun its st1 => (lc2N st1.length its.2 g tt it1 g1 tt1 te vs1 (dWipe env vs) its.1 (st1 ++ [.lst []])).bind fun _ st2 => .ok (.ref st1.length) st2
end Dn
set_option Elab.async false
set_option linter.all false
set_option maxRecDepth 100000
set_option maxHeartbeats 1000000
/-! Dz: list(zip(a, b)), lists and tuples -/
namespace Dz
open PySem PySem.Spec PyProof.Rows L2
section
variable {prog : Program} {w : World} {A : Around} {E : Value → Shared → Prop} {s : Shared} {z TI TO i1 i2 : Addr} {fp1 fp2 : List Addr} {n1 n2 i : Nat} {P1 P2 : Nat → Value → Prop} {St1 St2 : Nat → Heap → Prop} {T : Addr} {f : Bool} {oT : Obj}
theorem held_item {Q : Value → Shared → Prop} (S : ZipSep2 z TI TO i1 i2 fp1 fp2) (D1 : Draws prog w A i1 fp1 n1 P1 St1) (D2 : Draws prog w A i2 fp2 n2 P2 St2)
    (hz : IsZipHeld s.heap z TI TO T f) (hT : s.heap.get? T = some oT) (hTI : IsTupOf2 s.heap TI (.ref i1) (.ref i2)) (st1 : St1 i s.heap) (st2 : St2 i s.heap) (hlt1 : i < n1) (hlt2 : i < n2)
    (hQ : ∀ x1 x2 h' tk, P1 i x1 → P2 i x2 → IsZipHeld h' z TI TO T true → St1 (i + 1) h' → St2 (i + 1) h' → IsTupOf2 h' s.heap.objs.size x1 x2 → h'.objs.size = s.heap.objs.size + 1 →
      (∀ c o, c ≠ z → c ≠ i1 → c ≠ i2 → s.heap.get? c = some o → h'.get? c = some o) → Q (.ref s.heap.objs.size) { s with heap := h', toks := tk }) :
    wpAny (model prog w) A (Builtin.«zip.__next__» ⟨[.ref z], []⟩) (fun fin s' => ∃ v, fin = .done (.ret v) ∧ Q v s') E s := by
  obtain ⟨hp, g, d, tk0, os⟩ := s
  show wpAny _ _ (field (.ref z) 2 >>= _) _ _ _
  refine wpAny_bind (wpAny_field hz rfl (x := .bool false) rfl ?_)
  show wpAny _ _ (field (.ref z) 3 >>= _) _ _ _
  refine wpAny_bind (wpAny_field hz rfl (x := .ref TI) rfl ?_)
  refine wpAny_bind (wpAny_seqItems hTI rfl ?_)
  show wpAny _ _ (Builtin.SmallTypes.ownedTupleIsFree (.ref z) >>= _) _ _ _
  refine wpAny_bind (wpAny_tupleHeld_zip hz hT fun h₁ hz₁ hs₁ => ?_)
  replace hs₁ : Heap.SameBut z hp h₁ := hs₁
  simp only [Bool.false_eq_true, if_false]
  refine wpAny_bind ?_
  rw [← Array.forIn_toList]
  simp only [List.forIn_cons, List.forIn_nil]
  refine wpAny_bind (wpAny_bind (wpAny_holding ?_))
  show wpAny _ _ (Builtin.SmallTypes.nextOf (.ref i1) >>= _) _ _ ⟨h₁, g, d, tk0, os⟩
  refine wpAny_bind (D1.item i _ _ _ hlt1 (D1.over st1 hs₁ S.zf1) fun x1 h₂ tk1 hx1 sn1 hs₂ => wpAny_pure ?_)
  replace hs₂ : Heap.SameBut i1 h₁ h₂ := hs₂
  refine wpAny_pure ?_
  refine wpAny_bind (wpAny_bind (wpAny_holding ?_))
  show wpAny _ _ (Builtin.SmallTypes.nextOf (.ref i2) >>= _) _ _ ⟨h₂, g, d, tk1, os⟩
  refine wpAny_bind (D2.item i _ _ _ hlt2 (D2.over (D2.over st2 hs₁ S.zf2) hs₂ S.sep1_2) fun x2 h₃ tk2 hx2 sn2 hs₃ => wpAny_pure ?_)
  replace hs₃ : Heap.SameBut i2 h₂ h₃ := hs₃
  refine wpAny_pure (wpAny_pure ?_)
  show wpAny _ _ (newTuple [x1, x2] >>= _) _ _ ⟨h₃, g, d, tk2, os⟩
  refine wpAny_bind (wpAny_newTuple ?_)
  have hsz : h₃.objs.size = hp.objs.size := by rw [hs₃.1, hs₂.1, hs₁.1]
  have hz₃ : IsZipHeld h₃ z TI TO T true := hs₃.extBut _ _ S.zi2 (hs₂.extBut _ _ S.zi1 hz₁)
  have hk : ∀ c o, c ≠ z → c ≠ i1 → c ≠ i2 → hp.get? c = some o → h₃.get? c = some o := fun c o c1 c2 c3 e => hs₃.extBut _ _ c3 (hs₂.extBut _ _ c2 (hs₁.extBut _ _ c1 e))
  refine wpAny_pure ⟨_, rfl, ?_⟩
  show Q (.ref h₃.objs.size) ⟨h₃.push { cls := .type "tuple", data := .seq #[x1, x2] }, g, d, tk2, os⟩
  have hp2 : IsTupOf2 (h₃.push { cls := .type "tuple", data := .seq #[x1, x2] }) h₃.objs.size x1 x2 := Heap.get?_push_size _ rfl
  have hz4 : (h₃.push { cls := .type "tuple", data := .seq #[x1, x2] }).objs.size = h₃.objs.size + 1 := Heap.size_push ..
  rw [hsz] at hp2 hz4 ⊢
  exact hQ x1 x2 _ tk2 hx1 hx2 (Heap.get?_push_of_some _ hz₃) (D1.frame _ _ _ (D1.over sn1 hs₃ S.sep2_1) fun b _ o e => Heap.get?_push_of_some _ e) (D2.frame _ _ _ sn2 fun b _ o e => Heap.get?_push_of_some _ e) hp2 hz4 fun c o c1 c2 c3 e => Heap.get?_push_of_some _ (hk c o c1 c2 c3 e)
theorem held_end {Q : Fin → Shared → Prop} (S : ZipSep2 z TI TO i1 i2 fp1 fp2) (D1 : Draws prog w A i1 fp1 n1 P1 St1) (D2 : Draws prog w A i2 fp2 n2 P2 St2)
    (hz : IsZipHeld s.heap z TI TO T f) (hT : s.heap.get? T = some oT) (hTI : IsTupOf2 s.heap TI (.ref i1) (.ref i2)) (st1 : St1 i s.heap) (st2 : St2 i s.heap) (hle1 : i ≤ n1) (hle2 : i ≤ n2) (hend : i = n1 ∨ i = n2)
    (hE : ∀ h' tk e, (∀ c o, c ≠ z → c ≠ i1 → c ≠ i2 → s.heap.get? c = some o → h'.get? c = some o) → (∃ o, h'.get? e = some o ∧ o.cls = .type "StopIteration") → E (.ref e) { s with heap := h', toks := tk }) :
    wpAny (model prog w) A (Builtin.«zip.__next__» ⟨[.ref z], []⟩) Q E s := by
  obtain ⟨hp, g, d, tk0, os⟩ := s
  show wpAny _ _ (field (.ref z) 2 >>= _) _ _ _
  refine wpAny_bind (wpAny_field hz rfl (x := .bool false) rfl ?_)
  show wpAny _ _ (field (.ref z) 3 >>= _) _ _ _
  refine wpAny_bind (wpAny_field hz rfl (x := .ref TI) rfl ?_)
  refine wpAny_bind (wpAny_seqItems hTI rfl ?_)
  show wpAny _ _ (Builtin.SmallTypes.ownedTupleIsFree (.ref z) >>= _) _ _ _
  refine wpAny_bind (wpAny_tupleHeld_zip hz hT fun h₁ hz₁ hs₁ => ?_)
  replace hs₁ : Heap.SameBut z hp h₁ := hs₁
  simp only [Bool.false_eq_true, if_false]
  refine wpAny_bind ?_
  rw [← Array.forIn_toList]
  simp only [List.forIn_cons, List.forIn_nil]
  refine wpAny_bind (wpAny_bind (wpAny_holding ?_))
  show wpAny _ _ (Builtin.SmallTypes.nextOf (.ref i1) >>= _) _ _ ⟨h₁, g, d, tk0, os⟩
  by_cases hlt1 : i < n1
  · refine wpAny_bind (D1.item i _ _ _ hlt1 (D1.over st1 hs₁ S.zf1) fun x1 h₂ tk1 hx1 sn1 hs₂ => wpAny_pure ?_)
    replace hs₂ : Heap.SameBut i1 h₁ h₂ := hs₂
    refine wpAny_pure ?_
    have hi2 : i = n2 := by omega
    refine wpAny_bind (wpAny_bind (wpAny_holding ?_))
    show wpAny _ _ (Builtin.SmallTypes.nextOf (.ref i2) >>= _) _ _ ⟨h₂, g, d, tk1, os⟩
    refine wpAny_bind (D2.done ⟨h₂, g, d, tk1, os⟩ _ _ (by rw [← hi2]; exact D2.over (D2.over st2 hs₁ S.zf2) hs₂ S.sep1_2) fun q e hq he => ?_)
    replace hq : Heap.ExtBut i2 h₂ q := hq
    exact hE q tk1 e (fun c o c1 c2 c3 x => hq _ _ c3 (hs₂.extBut _ _ c2 (hs₁.extBut _ _ c1 x))) he
  · have hi1 : i = n1 := by omega
    refine wpAny_bind (D1.done ⟨h₁, g, d, tk0, os⟩ _ _ (by rw [← hi1]; exact (D1.over st1 hs₁ S.zf1)) fun q e hq he => ?_)
    replace hq : Heap.ExtBut i1 h₁ q := hq
    exact hE q tk0 e (fun c o c1 c2 c3 x => hq _ _ c2 (hs₁.extBut _ _ c1 x)) he
end
/-- the zip as list() draws from it: its own tuple free, or held by the list -/
def ZSt (z TI TO i1 i2 S : Addr) (St1 St2 : Nat → Heap → Prop) (i : Nat) (h : Heap) : Prop :=
  IsTupOf2 h TI (.ref i1) (.ref i2) ∧ St1 i h ∧ St2 i h ∧ ((IsZip h z TI TO .none ∧ ∃ a b, IsTupOf2 h TO a b) ∨ ∃ T f oT, IsZipHeld h z TI TO T f ∧ h.get? T = some oT ∧ T ≠ z ∧ T ≠ i1 ∧ T ≠ i2 ∧ T ≠ S)
section
variable {prog : Program} {w : World} {A : Around} {E : Value → Shared → Prop} {s : Shared} {z TI TO i1 i2 Sl : Addr} {fp1 fp2 : List Addr} {n1 n2 i : Nat} {P1 P2 : Nat → Value → Prop} {St1 St2 : Nat → Heap → Prop}
theorem z_item {Q : Option Value → Shared → Prop} (S : ZipSep2 z TI TO i1 i2 fp1 fp2) (D1 : Draws prog w A.in1 i1 fp1 n1 P1 St1) (D2 : Draws prog w A.in1 i2 fp2 n2 P2 St2)
    (st : ZSt z TI TO i1 i2 Sl St1 St2 i s.heap) (hSl : Sl < s.heap.objs.size) (hlt1 : i < n1) (hlt2 : i < n2)
    (hQ : ∀ x1 x2 h' tk, P1 i x1 → P2 i x2 → ZSt z TI TO i1 i2 Sl St1 St2 (i + 1) h' → IsTupOf2 h' s.heap.objs.size x1 x2 → h'.objs.size = s.heap.objs.size + 1 →
      (∀ c o, c ≠ z → c ≠ TO → c ≠ i1 → c ≠ i2 → s.heap.get? c = some o → h'.get? c = some o) → Q (some (.ref s.heap.objs.size)) { s with heap := h', toks := tk }) :
    wpAny (model prog w) A (pyNext (.ref z)) Q E s := by
  obtain ⟨hTI, st1, st2, hz⟩ := st
  have lt : ∀ {c o}, s.heap.get? c = some o → s.heap.objs.size ≠ c := fun e => Nat.ne_of_gt (Heap.lt_size e)
  have n1' : s.heap.objs.size ≠ i1 := let ⟨_, e⟩ := D1.live _ _ st1; lt e
  have n2' : s.heap.objs.size ≠ i2 := let ⟨_, e⟩ := D2.live _ _ st2; lt e
  rcases hz with ⟨hz, a, b, hTO⟩ | ⟨T, f, oT, hz, hT, r1, r2, r3, r4⟩
  · refine wpAny_pyNext_zipD2_item S D1 D2 hz hTI hTO st1 st2 hlt1 hlt2 fun x1 x2 h' tk p1 p2 a1 a2 a3 a4 a5 a6 hk => ?_
    exact hQ x1 x2 h' tk p1 p2 ⟨hk _ _ S.TIz S.TITO S.TIi1 S.TIi2 hTI, a3, a4, .inr ⟨_, false, _, a1, a5, lt hz, n1', n2', Nat.ne_of_gt hSl⟩⟩ a5 a6 hk
  · have hTy : s.TypeIs (.ref z) "zip" := ⟨_, hz, rfl⟩
    unfold pyNext
    exact wpAny_bind (wpAny_attempt (wpAny_callSpecial?_slot (name := Str.ofString "__next__") hTy F.slot_zip_next
      (wpAny_call_entry F.slot_zip_next hTy F.entry_zip_next
        (held_item S D1 D2 hz hT hTI st1 st2 hlt1 hlt2 fun x1 x2 h' tk p1 p2 a1 a3 a4 a5 a6 hk => wpAny_pure (hQ x1 x2 h' tk p1 p2 ⟨hk _ _ S.TIz S.TIi1 S.TIi2 hTI, a3, a4, .inr ⟨T, true, oT, a1, hk _ _ r1 r2 r3 hT, r1, r2, r3, r4⟩⟩ a5 a6 fun c o c1 _ c3 c4 e => hk c o c1 c3 c4 e)) (F.args_zip_next_1 _))))
theorem z_end {Q : Option Value → Shared → Prop} (S : ZipSep2 z TI TO i1 i2 fp1 fp2) (D1 : Draws prog w A.in1 i1 fp1 n1 P1 St1) (D2 : Draws prog w A.in1 i2 fp2 n2 P2 St2)
    (st : ZSt z TI TO i1 i2 Sl St1 St2 i s.heap) (hle1 : i ≤ n1) (hle2 : i ≤ n2) (hend : i = n1 ∨ i = n2)
    (hQ : ∀ h' tk, (∀ c o, c ≠ z → c ≠ TO → c ≠ i1 → c ≠ i2 → s.heap.get? c = some o → h'.get? c = some o) → Q none { s with heap := h', toks := tk }) : wpAny (model prog w) A (pyNext (.ref z)) Q E s := by
  obtain ⟨hTI, st1, st2, hz⟩ := st
  rcases hz with ⟨hz, a, b, hTO⟩ | ⟨T, f, oT, hz, hT, r1, r2, r3, r4⟩
  · exact wpAny_pyNext_zipD2_end S D1 D2 hz hTI hTO st1 st2 hle1 hle2 hend hQ
  · have hTy : s.TypeIs (.ref z) "zip" := ⟨_, hz, rfl⟩
    unfold pyNext
    refine wpAny_bind (wpAny_attempt (wpAny_callSpecial?_slot (name := Str.ofString "__next__") hTy F.slot_zip_next
      (wpAny_call_entry F.slot_zip_next hTy F.entry_zip_next (held_end S D1 D2 hz hT hTI st1 st2 hle1 hle2 hend fun h' tk e hk he => ?_) (F.args_zip_next_1 _))))
    obtain ⟨o, ho, hc⟩ := he
    refine wpAny_bind (wpAny_isInstance (T := "StopIteration") (b := true) ⟨o, ho, hc⟩ isSubtype_stop ?_)
    exact wpAny_pure (hQ _ _ fun c o c1 _ c3 c4 e => hk c o c1 c3 c4 e)
end
theorem zip_no_len : typeLookup (.type "zip") "__len__" = pure none := am_miss_of_fast (by decide +kernel)
theorem zip_no_hint : typeLookup (.type "zip") "__length_hint__" = pure none := am_miss_of_fast (by decide +kernel)
/-- the pairs made so far -/
structure MadeZ (P1 P2 : Nat → Value → Prop) (lo : Addr) (h : Heap) (as : List Addr) : Prop where
  rise : as.Pairwise (· < ·)
  above : ∀ a ∈ as, lo ≤ a
  pairs : ∀ (j : Nat) (a : Addr), as[j]? = some a → ∃ x y, P1 j x ∧ P2 j y ∧ IsTupOf2 h a x y
theorem MadeZ.there {P1 P2 : Nat → Value → Prop} {lo : Addr} {h : Heap} {as : List Addr} (g : MadeZ P1 P2 lo h as) {a : Addr} (ha : a ∈ as) : a < h.objs.size := by
  obtain ⟨j, hj⟩ := List.mem_iff_getElem?.mp ha
  obtain ⟨_, _, _, _, e⟩ := g.pairs j a hj
  exact Heap.lt_size e
section
variable {prog : Program} {w : World} {A : Around} {E : Value → Shared → Prop} {s : Shared} {z TI TO i1 i2 Sl : Addr} {fp1 fp2 : List Addr} {n1 n2 i : Nat} {P1 P2 : Nat → Value → Prop} {St1 St2 : Nat → Heap → Prop}
theorem hint_zip (hT : s.TypeIs (.ref z) "zip") {Q : Bool → Shared → Prop} (h : Q true s) : wpAny (model prog w) A (Builtin.List.listLengthHint (.ref z)) Q E s := by
  unfold Builtin.List.listLengthHint
  refine wpAny_bind (wpAny_specialOf hT zip_no_len ?_)
  refine wpAny_ite_split (fun hab => absurd hab (by decide)) (fun _ => ?_)
  refine wpAny_ite_split (fun hab => absurd hab (by decide)) (fun _ => ?_)
  refine wpAny_bind (wpAny_specialOf hT zip_no_hint ?_)
  exact wpAny_pure h
theorem ZSt.keep {h h' : Heap} (D1 : Draws prog w A i1 fp1 n1 P1 St1) (D2 : Draws prog w A i2 fp2 n2 P2 St2) (st : ZSt z TI TO i1 i2 Sl St1 St2 i h) (k : ∀ b o, b ≠ Sl → h.get? b = some o → h'.get? b = some o) (d1 : z ≠ Sl) (d2 : TI ≠ Sl) (d3 : TO ≠ Sl) (f1 : Sl ∉ fp1) (f2 : Sl ∉ fp2) :
    ZSt z TI TO i1 i2 Sl St1 St2 i h' := by
  obtain ⟨hTI, st1, st2, hz⟩ := st
  refine ⟨k _ _ d2 hTI, D1.frame _ _ _ st1 fun b hb o e => k b o (fun q => f1 (q ▸ hb)) e, D2.frame _ _ _ st2 fun b hb o e => k b o (fun q => f2 (q ▸ hb)) e, ?_⟩
  rcases hz with ⟨hz, a, b, hTO⟩ | ⟨T, f, oT, hz, hT, r1, r2, r3, r4⟩
  · exact .inl ⟨k _ _ d1 hz, a, b, k _ _ d3 hTO⟩
  · exact .inr ⟨T, f, oT, k _ _ d1 hz, k _ _ r4 hT, r1, r2, r3, r4⟩
theorem loopZ {R : Result → Shared → Prop} (hh : A.handled = none) (S : ZipSep2 z TI TO i1 i2 fp1 fp2) (D1 : Draws prog w A.in1.in1 i1 fp1 n1 P1 St1) (D2 : Draws prog w A.in1.in1 i2 fp2 n2 P2 St2) (d1 : z ≠ Sl) (d2 : TI ≠ Sl) (d3 : TO ≠ Sl) (f1 : Sl ∉ fp1) (f2 : Sl ∉ fp2) (hn : min n1 n2 ≤ sizeLine) (res : Value) {h₁ : Heap} {lo : Addr} (hlo : z < lo ∧ TO < lo ∧ i1 < lo ∧ i2 < lo ∧ Sl < lo)
    (hR : ∀ h' tk acc c as, (∀ b o, b ≠ Sl → b ≠ z → b ≠ TO → b ≠ i1 → b ≠ i2 → h₁.get? b = some o → h'.get? b = some o) → h'.get? Sl = some { cls := .type "list", dict := none, data := .seq acc c, slots := #[] } → as.length = min n1 n2 → MadeZ P1 P2 lo h' as →
      acc.toList = as.map Value.ref → R (.ok (.ret res)) { s with heap := h', toks := tk }) :
    ∀ (k i : Nat) (h : Heap) (tk c : Nat) (acc : Array Value) (as : List Addr), min n1 n2 - i = k → i ≤ min n1 n2 → ZSt z TI TO i1 i2 Sl St1 St2 i h → (∀ b o, b ≠ Sl → b ≠ z → b ≠ TO → b ≠ i1 → b ≠ i2 → h₁.get? b = some o → h.get? b = some o) →
      h.get? Sl = some { cls := .type "list", dict := none, data := .seq acc c, slots := #[] } → acc.toList = as.map Value.ref → as.length = i → MadeZ P1 P2 lo h as → lo ≤ h.objs.size →
      codeAny (model prog w) A (.builtin "list.extend.loop" ⟨[.ref Sl, .ref z, res], []⟩) R { s with heap := h, toks := tk } := by
  have zi1 := S.zi1
  have zi2 := S.zi2
  have Si1 : i1 ≠ Sl := fun e => f1 (e ▸ S.mem1)
  have Si2 : i2 ≠ Sl := fun e => f2 (e ▸ S.mem2)
  intro k
  induction k with
  | zero =>
    intro i h tk c acc as hk hi hst hkeep hS hacc hal hG hIs
    refine codeAny_builtin PySem.F.entry_extend_loop ?_
    rw [Around.under_plainId PySem.F.plain_extend_loop _]
    show wpAny _ A.in1 (pyNext (.ref z) >>= _) _ _ _
    refine wpAny_bind (z_end (s := { s with heap := h, toks := tk }) (A := A.in1) S D1 D2 hst (Nat.le_trans hi (Nat.min_le_left ..)) (Nat.le_trans hi (Nat.min_le_right ..)) (by omega) fun h' tk' he => ?_)
    refine wpAny_pure (hR h' tk' acc c as (fun b o c1 c2 c3 c4 c5 e => he b o c2 c3 c4 c5 (hkeep b o c1 c2 c3 c4 c5 e)) (he Sl _ (Ne.symm d1) (Ne.symm d3) (Ne.symm Si1) (Ne.symm Si2) hS) (by omega) ⟨hG.rise, hG.above, fun j a hj => ?_⟩ hacc)
    obtain ⟨x, y, e1, e2, e3⟩ := hG.pairs j a hj
    have ha := hG.above a (List.mem_of_getElem? hj)
    obtain ⟨g1, g2, g3, g4, g5⟩ := hlo
    exact ⟨x, y, e1, e2, he a _ (Nat.ne_of_gt (Nat.lt_of_lt_of_le g1 ha)) (Nat.ne_of_gt (Nat.lt_of_lt_of_le g2 ha)) (Nat.ne_of_gt (Nat.lt_of_lt_of_le g3 ha)) (Nat.ne_of_gt (Nat.lt_of_lt_of_le g4 ha)) e3⟩
  | succ k ih =>
    intro i h tk c acc as hk hi hst hkeep hS hacc hal hG hIs
    have hlt : i < min n1 n2 := by omega
    have hsz : acc.size = i := by rw [← Array.length_toList, hacc, List.length_map, hal]
    refine codeAny_builtin PySem.F.entry_extend_loop ?_
    rw [Around.under_plainId PySem.F.plain_extend_loop _]
    show wpAny _ A.in1 (pyNext (.ref z) >>= _) _ _ _
    refine wpAny_bind (z_item (s := { s with heap := h, toks := tk }) (A := A.in1) S D1 D2 hst (Heap.lt_size hS) (Nat.lt_of_lt_of_le hlt (Nat.min_le_left ..)) (Nat.lt_of_lt_of_le hlt (Nat.min_le_right ..)) fun x1 x2 h' tk' p1 p2 hst' ht hz hkp => ?_)
    dsimp only at ht hz hkp ⊢
    have hS' := hkp Sl _ (Ne.symm d1) (Ne.symm d3) (Ne.symm Si1) (Ne.symm Si2) hS
    have up : ∀ b o, b ≠ Sl → h'.get? b = some o → (h'.update Sl (Obj.mapSeq (·.push (Value.ref h.objs.size)))).get? b = some o := fun b o hb e => (Heap.get?_update_other _ _ (Ne.symm hb)).trans e
    have hSl : Sl < h.objs.size := Heap.lt_size hS
    have hz' : (h'.update Sl (Obj.mapSeq (·.push (Value.ref h.objs.size)))).objs.size = h.objs.size + 1 := by rw [← hz]; exact (Heap.SameBut.update ..).1
    show wpAny _ A.in1 (updateSeq Sl (·.push (Value.ref h.objs.size)) >>= _) _ _ _
    refine wpAny_bind ?_
    refine wpAny_updateSeq hS' rfl (wpAny_pure ⟨plainId_quiet PySem.F.plain_extend_loop _, ih (i + 1) _ tk' _ (acc.push (Value.ref h.objs.size)) (as ++ [h.objs.size]) (by omega) hlt (hst'.keep D1 D2 up d1 d2 d3 f1 f2)
      (fun b o c1 c2 c3 c4 c5 e => up b o c1 (hkp b o c2 c3 c4 c5 (hkeep b o c1 c2 c3 c4 c5 e))) (Heap.get?_update_self _ hS' rfl) (by rw [Array.toList_push, hacc, List.map_append]; rfl) (by rw [List.length_append, hal]; rfl) ⟨?_, ?_, ?_⟩ ?_⟩) (by rw [hsz]; omega) (by show (acc.push (Value.ref h.objs.size)).size ≤ sizeLine + 1; rw [Array.size_push, hsz]; omega)
    · refine List.pairwise_append.mpr ⟨hG.rise, List.pairwise_singleton _ _, fun a ha b hb => ?_⟩
      rw [List.mem_singleton.mp hb]
      exact hG.there ha
    · intro a ha
      rcases List.mem_append.mp ha with ha | ha
      · exact hG.above a ha
      · rw [List.mem_singleton.mp ha]; exact hIs
    · intro j b hj
      rcases Nat.lt_trichotomy j as.length with h1 | h1 | h1
      · rw [List.getElem?_append_left h1] at hj
        obtain ⟨x, y, e1, e2, e3⟩ := hG.pairs j b hj
        have ha := hG.above b (List.mem_of_getElem? hj)
        obtain ⟨g1, g2, g3, g4, g5⟩ := hlo
        exact ⟨x, y, e1, e2, up b _ (Nat.ne_of_gt (Nat.lt_of_lt_of_le g5 ha)) (hkp b _ (Nat.ne_of_gt (Nat.lt_of_lt_of_le g1 ha)) (Nat.ne_of_gt (Nat.lt_of_lt_of_le g2 ha)) (Nat.ne_of_gt (Nat.lt_of_lt_of_le g3 ha)) (Nat.ne_of_gt (Nat.lt_of_lt_of_le g4 ha)) e3)⟩
      · subst h1
        have hb : h.objs.size = b := by simpa using hj
        subst hb
        subst hal
        exact ⟨x1, x2, p1, p2, up _ _ (Nat.ne_of_gt hSl) ht⟩
      · have hnone : (as ++ [h.objs.size])[j]? = none := List.getElem?_eq_none (by rw [List.length_append, List.length_singleton]; omega)
        rw [hnone] at hj; cases hj
    · rw [hz']; exact Nat.le_succ_of_le hIs
theorem extZ {R : Result → Shared → Prop} (hh : A.handled = none) (S : ZipSep2 z TI TO i1 i2 fp1 fp2) (D1 : Draws prog w A.in1.in1 i1 fp1 n1 P1 St1) (D2 : Draws prog w A.in1.in1 i2 fp2 n2 P2 St2) (d1 : z ≠ Sl) (d2 : TI ≠ Sl) (d3 : TO ≠ Sl) (f1 : Sl ∉ fp1) (f2 : Sl ∉ fp2) (hn : min n1 n2 ≤ sizeLine) (res : Value) (c₀ : Nat)
    (hz : IsZip s.heap z TI TO .none) (st : ZSt z TI TO i1 i2 Sl St1 St2 0 s.heap) (hlo : z < s.heap.objs.size ∧ TO < s.heap.objs.size ∧ i1 < s.heap.objs.size ∧ i2 < s.heap.objs.size ∧ Sl < s.heap.objs.size)
    (hS : s.heap.get? Sl = some { cls := .type "list", data := .seq #[] c₀ })
    (hR : ∀ h' tk acc c as, (∀ b o, b ≠ Sl → b ≠ z → b ≠ TO → b ≠ i1 → b ≠ i2 → s.heap.get? b = some o → h'.get? b = some o) → h'.get? Sl = some { cls := .type "list", dict := none, data := .seq acc c, slots := #[] } → as.length = min n1 n2 → MadeZ P1 P2 s.heap.objs.size h' as →
      acc.toList = as.map Value.ref → R (.ok (.ret res)) { s with heap := h', toks := tk }) :
    wpAny (model prog w) A.in1 (Builtin.List.listExtendWith (.ref Sl) (.ref z) res)
      (fun fin s' => match fin with | .done f => R (.ok f) s' | .again c' => c'.quiet = true ∧ codeAny (model prog w) A c' R s') (fun e s' => R (.error e) s') s := by
  have hty : s.TypeIs (.ref z) "zip" := ⟨_, hz, rfl⟩
  have key : ∀ (h : Heap) (c₁ tk : Nat), (∀ b o, b ≠ Sl → s.heap.get? b = some o → h.get? b = some o) → h.objs.size = s.heap.objs.size →
      h.get? Sl = some { cls := .type "list", data := .seq #[] c₁ } → codeAny (model prog w) A (.builtin "list.extend.loop" ⟨[.ref Sl, .ref z, res], []⟩) R { s with heap := h, toks := tk } := by
    intro h c₁ tk hk hsz hS₁
    refine loopZ (s := s) (h₁ := s.heap) (lo := s.heap.objs.size) hh S D1 D2 d1 d2 d3 f1 f2 hn res hlo (fun h' tk' acc c as hk' hS' hl hG hacc => hR h' tk' acc c as hk' hS' hl hG hacc)
      (min n1 n2) 0 h tk c₁ #[] [] (Nat.sub_zero _) (Nat.zero_le _) (st.keep D1 D2 hk d1 d2 d3 f1 f2) (fun b o c1 _ _ _ _ e => hk b o c1 e) hS₁ rfl rfl
      ⟨List.Pairwise.nil, (fun _ ha => nomatch ha), (fun j a hj => by simp at hj)⟩ (Nat.le_of_eq hsz.symm)
  unfold Builtin.List.listExtendWith
  refine wpAny_bind (wpAny_typeOf (T := "zip") hty ?_)
  have h1 : Builtin.List.listSameRef (.ref Sl) (.ref z) = false := by simp [Builtin.List.listSameRef, Ne.symm d1]
  have h2 : (Value.type "zip" == Value.type "list") = false := by decide
  have h3 : (Value.type "zip" == Value.type "tuple") = false := by decide
  simp only [h1, h2, h3, Bool.or_false, Bool.false_eq_true, if_false]
  refine wpAny_bind (wpAny_pyIter_zip hz ?_)
  refine wpAny_bind (wpAny_holding (hint_zip hty ?_))
  refine wpAny_ite_split (fun _ => ?_) (fun _ => wpAny_pure ⟨plainId_quiet PySem.F.plain_extend_loop _, key _ c₀ _ (fun b o _ e => e) rfl hS⟩)
  refine wpAny_bind (wpAny_rule ?_)
  refine wpAny_bind ?_
  show wpAny _ _ (updateSeq Sl (·.push .none) >>= fun _ => updateSeq Sl (·.pop)) _ _ _
  refine wpAny_bind (wpAny_updateSeq hS rfl ?_)
  have hS₂ := Heap.get?_update_self (Obj.mapSeq (·.push Value.none)) hS rfl
  refine wpAny_updateSeq (hz := by seq_fits) hS₂ rfl ?_
  have hS₃ := Heap.get?_update_self (Obj.mapSeq (·.pop)) hS₂ rfl
  refine wpAny_pure ⟨plainId_quiet PySem.F.plain_extend_loop _, key _ _ _ (fun b o hb e => ?_) ?_ hS₃⟩
  · exact (Heap.get?_update_other _ _ (Ne.symm hb)).trans ((Heap.get?_update_other _ _ (Ne.symm hb)).trans e)
  · have e1 : (s.heap.update Sl (Obj.mapSeq (·.push Value.none))).objs.size = s.heap.objs.size := (Heap.SameBut.update ..).1
    rw [← e1]
    exact (Heap.SameBut.update ..).1
theorem initZ {R : Result → Shared → Prop} (hh : A.handled = none) (S : ZipSep2 z TI TO i1 i2 fp1 fp2) (D1 : Draws prog w A.in1.in1 i1 fp1 n1 P1 St1) (D2 : Draws prog w A.in1.in1 i2 fp2 n2 P2 St2) (d1 : z ≠ Sl) (d2 : TI ≠ Sl) (d3 : TO ≠ Sl) (f1 : Sl ∉ fp1) (f2 : Sl ∉ fp2) (hn : min n1 n2 ≤ sizeLine)
    (hz : IsZip s.heap z TI TO .none) (st : ZSt z TI TO i1 i2 Sl St1 St2 0 s.heap) (hlo : z < s.heap.objs.size ∧ TO < s.heap.objs.size ∧ i1 < s.heap.objs.size ∧ i2 < s.heap.objs.size ∧ Sl < s.heap.objs.size)
    (hS : s.heap.get? Sl = some { cls := .type "list", data := .seq #[] })
    (hR : ∀ h' tk acc c as, (∀ b o, b ≠ Sl → b ≠ z → b ≠ TO → b ≠ i1 → b ≠ i2 → s.heap.get? b = some o → h'.get? b = some o) → h'.get? Sl = some { cls := .type "list", dict := none, data := .seq acc c, slots := #[] } → as.length = min n1 n2 → MadeZ P1 P2 s.heap.objs.size h' as →
      acc.toList = as.map Value.ref → R (.ok (.ret .none)) { s with heap := h', toks := tk }) :
    wpAny (model prog w) A.in1 (Builtin.«list.__init__» ⟨[.ref Sl, .ref z], []⟩)
      (fun fin s' => match fin with | .done f => R (.ok f) s' | .again c' => c'.quiet = true ∧ codeAny (model prog w) A c' R s') (fun e s' => R (.error e) s') s := by
  show wpAny _ _ (do let old ← Builtin.List.listItems (.ref Sl); Builtin.List.listUpdate (.ref Sl) (fun _ => #[]); letGo old.toList.reverse; Builtin.List.listExtendWith (.ref Sl) (.ref z) .none) _ _ s
  refine wpAny_bind ?_
  unfold Builtin.List.listItems
  refine wpAny_bind (wpAny_seqItems hS rfl (wpAny_pure ?_))
  show wpAny _ _ (updateSeq Sl (fun _ => #[]) >>= fun _ => letGo (#[] : Array Value).toList.reverse >>= fun _ => Builtin.List.listExtendWith (.ref Sl) (.ref z) .none) _ _ s
  refine wpAny_bind (wpAny_updateSeq hS rfl ?_)
  have hS₂ := Heap.get?_update_self (Obj.mapSeq (fun _ => (#[] : Array Value))) hS rfl
  have oth : ∀ b o, b ≠ Sl → s.heap.get? b = some o → (s.heap.update Sl (Obj.mapSeq (fun _ => (#[] : Array Value)))).get? b = some o :=
    fun b o hb e => (Heap.get?_update_other _ _ (Ne.symm hb)).trans e
  have e1 : (s.heap.update Sl (Obj.mapSeq (fun _ => (#[] : Array Value)))).objs.size = s.heap.objs.size := (Heap.SameBut.update ..).1
  refine wpAny_bind (wpAny_letGo ?_)
  refine extZ (s := { s with heap := s.heap.update Sl (Obj.mapSeq (fun _ => (#[] : Array Value))) }) hh S D1 D2 d1 d2 d3 f1 f2 hn .none _ (oth _ _ d1 hz) (st.keep D1 D2 oth d1 d2 d3 f1 f2) (by dsimp only; rw [e1]; exact hlo) hS₂ fun h' tk acc c as hk hS' hl hG hacc => ?_
  dsimp only at hG
  rw [e1] at hG
  exact hR h' tk acc c as (fun b o c1 c2 c3 c4 c5 e => hk b o c1 c2 c3 c4 c5 (oth b o c1 e)) hS' hl hG hacc
theorem callZ {Q : Value → Shared → Prop} (hh : A.handled = none) (S : ZipSep2 z TI TO i1 i2 fp1 fp2) (D1 : Draws prog w A.in1.in1.in1 i1 fp1 n1 P1 St1) (D2 : Draws prog w A.in1.in1.in1 i2 fp2 n2 P2 St2) (hn : min n1 n2 ≤ sizeLine)
    (hz : IsZip s.heap z TI TO .none) (hTI : IsTupOf2 s.heap TI (.ref i1) (.ref i2)) (hTO : ∃ a b, IsTupOf2 s.heap TO a b) (st1 : St1 0 s.heap) (st2 : St2 0 s.heap) (hf1 : ∀ b ∈ fp1, b < s.heap.objs.size) (hf2 : ∀ b ∈ fp2, b < s.heap.objs.size)
    (hQ : ∀ h' tk acc c as, (∀ b o, b ≠ z → b ≠ TO → b ≠ i1 → b ≠ i2 → s.heap.get? b = some o → h'.get? b = some o) → h'.get? s.heap.objs.size = some { cls := .type "list", dict := none, data := .seq acc c, slots := #[] } → as.length = min n1 n2 → MadeZ P1 P2 (s.heap.objs.size + 1) h' as →
      acc.toList = as.map Value.ref → Q (.ref s.heap.objs.size) { s with heap := h', toks := tk }) :
    wpAny (model prog w) A (call (.type "list") [.ref z]) Q E s := by
  refine callType_codes (Q₁ := fun obj s₁ => obj = .ref s.heap.objs.size ∧ s₁ = { s with heap := s.heap.push { cls := .type "list", data := .seq #[] } }) PySem.F.called_list (PySem.F.typeCall_list_1 _) PySem.F.entry_list_init
    (code_list_new _ ⟨rfl, rfl⟩) fun obj s₁ h₁ => ?_
  obtain ⟨rfl, rfl⟩ := h₁
  have hS : (s.heap.push { cls := .type "list", data := .seq #[] }).get? s.heap.objs.size = some { cls := .type "list", data := .seq #[] } := Heap.get?_push_size _ rfl
  have up : ∀ b o, s.heap.get? b = some o → (s.heap.push { cls := .type "list", data := .seq #[] }).get? b = some o := fun b o e => Heap.get?_push_of_some _ e
  have hsz : (s.heap.push { cls := .type "list", data := .seq #[] }).objs.size = s.heap.objs.size + 1 := Heap.size_push ..
  have lz := Heap.lt_size hz
  have lTI := Heap.lt_size hTI
  have lTO : TO < s.heap.objs.size := let ⟨_, _, e⟩ := hTO; Heap.lt_size e
  have l1 : i1 < s.heap.objs.size := hf1 _ S.mem1
  have l2 : i2 < s.heap.objs.size := hf2 _ S.mem2
  refine ⟨⟨_, hS, rfl⟩, PySem.F.args_list_init_2 _ _, initZ (A := A.in1) (s := { s with heap := s.heap.push { cls := .type "list", data := .seq #[] } }) hh S D1 D2 (Nat.ne_of_lt lz) (Nat.ne_of_lt lTI) (Nat.ne_of_lt lTO) (fun hb => Nat.lt_irrefl _ (hf1 _ hb)) (fun hb => Nat.lt_irrefl _ (hf2 _ hb)) hn
    (up _ _ hz) ⟨up _ _ hTI, D1.frame _ _ _ st1 fun b _ o e => up b o e, D2.frame _ _ _ st2 fun b _ o e => up b o e, .inl ⟨up _ _ hz, let ⟨a, b, e⟩ := hTO; ⟨a, b, up _ _ e⟩⟩⟩
    (by dsimp only; rw [hsz]; exact ⟨Nat.lt_succ_of_lt lz, Nat.lt_succ_of_lt lTO, Nat.lt_succ_of_lt l1, Nat.lt_succ_of_lt l2, Nat.lt_succ_self _⟩) hS (fun h' tk acc c as hk hS' hl hG hacc => ?_)⟩
  dsimp only at hG
  rw [hsz] at hG
  exact ⟨rfl, hQ h' tk acc c as (fun b o c2 c3 c4 c5 e => hk b o (Nat.ne_of_lt (Heap.lt_size e)) c2 c3 c4 c5 (up b o e)) hS' hl hG hacc⟩
end
/-- list(zip(a, b)): two lists or two tuples -/
def tLZ (K : PySem.W.Frag) (ta : TA) : TE := fun σ H Q => ta σ H fun vs H1 => ∃ a b xs ys, vs = [.ref a, .ref b] ∧ ((SqL K H1 a xs ∧ SqL K H1 b ys) ∨ (SqT K H1 a xs ∧ SqT K H1 b ys)) ∧ min xs.length ys.length ≤ sizeLine ∧
  ∀ (H2 : Hp) (l : Addr) (bs : List Addr), (∀ c o, H1 c = some o → H2 c = some o) → bs.length = min xs.length ys.length → (∀ (j : Nat) (c : Addr), bs[j]? = some c → ∃ x y, xs[j]? = some x ∧ ys[j]? = some y ∧ H2 c = some (.tup [x, y])) → H1 l = none → H2 l = some (.lst (bs.map V.ref)) → Q (.ref l) H2
section
variable {X : Cx} {e e2 : Expr} {ta : TA} {p p2 pos pos2 : Pos}
theorem draws_list {prog : Program} {w : World} {A : Around} (hh : A.handled = none) (it l : Addr) (hne : l ≠ it) (items : Array Value) :
    Draws prog w A it [it, l] items.size (fun i v => items[i]? = some v) (fun i h => h.IsListIter it l i ∧ h.IsList l items) where
  live := fun _ _ st => let ⟨o, ho, _⟩ := st.1; ⟨o, ho⟩
  frame := fun _ _ _ st hk => ⟨st.1.at fun o e => hk it (by simp) o e, st.2.at fun o e => hk l (by simp) o e⟩
  item := fun i s Q E hi st hQ => by
    refine wpAny_nextOf_list_item st.1 st.2 (x := items[i]) (by simp [hi]) fun h' hit' hs' => ?_
    exact hQ _ h' s.toks (by simp [hi]) ⟨hit', st.2.extBut hs'.extBut hne⟩ hs'
  done := fun s Q E st hE => wpAny_nextOf_list_end hh st.1 st.2 (by simp) hE
theorem vals_refs : ∀ as : List Addr, Vals (as.map V.ref) (as.map Value.ref)
  | [] => .nil
  | a :: as => .cons rfl (vals_refs as)
theorem pe_listZip (hc : X.calm = true) (hg : Gl X "list") (hm : X.mg "list" = none) (hg2 : Gl X "zip") (hm2 : X.mg "zip" = none) (ha : PA X [e, e2] ta)
    (hs2 : starEach [e, e2] X.env = (false, eval e X.env) :: starEach [e2] X.env := by rfl) (hpl2 : (backTo pos2 (starEach [e2] X.env)).any (·.1) = false := by rfl)
    (na : starEach [.Call (.Name "zip" p2) [e, e2] [] pos2] X.env = (false, eval (.Call (.Name "zip" p2) [e, e2] [] pos2) X.env) :: starEach [] X.env := by rfl) :
    PE X (.Call (.Name "list" p) [.Call (.Name "zip" p2) [e, e2] [] pos2] [] pos) (tLZ X.K ta) := by
  refine ⟨fun pins s σ H Q I h => ?_⟩
  refine Call_ (ld_blt I hg hm boot_list (PyProof.Rows.callWith_type1 (args_cons ?_ na) na rfl))
  refine Call_ (ld_blt I hg2 hm2 PyProof.Rows.boot_zip (PyProof.Rows.callWith_type1 (thn (ha.run pos2 pins s σ H _ I h) fun us s1 ⟨vs, H1, I1, r1, q1⟩ => ?_) hs2 hpl2))
  obtain ⟨a, b, xs, ys, ex, hab, hmin, q⟩ := q1
  subst ex
  cases r1 with
  | cons r rr =>
  cases rr with
  | cons r' rr =>
  cases rr
  cases r
  cases r'
  have hh : X.A.handled = none := I1.ok.hd hc
  -- what is common behind the call of zip
  have fin : ∀ {its its2 : List Value} {St1 St2 : Nat → Heap → Prop} {h' : Heap} {N : Nat}, N = s1.heap.objs.size → Vals xs its → Vals ys its2 →
      Draws X.prog X.w X.A.in1.in1.in1 N [N, a] its.toArray.size (fun i v => its.toArray[i]? = some v) St1 → Draws X.prog X.w X.A.in1.in1.in1 (N + 1) [N + 1, b] its2.toArray.size (fun i v => its2.toArray[i]? = some v) St2 →
      a < N → b < N → IsZip h' (N + 4) (N + 2) (N + 3) .none → IsTupOf2 h' (N + 2) (.ref N) (.ref (N + 1)) → IsTupOf2 h' (N + 3) .none .none → St1 0 h' → St2 0 h' → h'.objs.size = N + 5 → (∀ c o, s1.heap.get? c = some o → h'.get? c = some o) →
      wpAny (model X.prog X.w) X.A (evalAll []) (fun us s' => wpAny (model X.prog X.w) X.A (call (.type "list") (.ref (N + 4) :: us)) (EP X pins σ Q) X.xe s') X.xe { s1 with heap := h' } := by
    intro its its2 St1 St2 h' N eN rx ry D1 D2 hla hlb hz hTI hTO st1 st2 hsz hk
    refine wpAny_evalAll_nil ?_
    have l1 := rx.length
    have l2 := ry.length
    have S : ZipSep2 (N + 4) (N + 2) (N + 3) N (N + 1) [N, a] [N + 1, b] := zip_sep2 (fp1 := [a]) (fp2 := [b]) (fun c hc => by rw [List.mem_singleton.mp hc]; exact hla) (fun c hc => by rw [List.mem_singleton.mp hc]; exact hlb)
    refine callZ (s := { s1 with heap := h' }) hh S D1 D2 (by simp only [List.size_toArray]; omega) hz hTI ⟨_, _, hTO⟩ st1 st2 (fun c hc => ?_) (fun c hc => ?_) fun h2 tk acc c as hk2 hl hlen hG hacc => ?_
    · have hc' : c = N ∨ c = a := by simpa using hc
      show c < h'.objs.size
      rw [hsz]
      rcases hc' with z | z
      · rw [z]; exact Nat.lt_add_of_pos_right (by decide)
      · rw [z]; exact Nat.lt_of_lt_of_le hla (Nat.le_add_right _ _)
    · have hc' : c = N + 1 ∨ c = b := by simpa using hc
      show c < h'.objs.size
      rw [hsz]
      rcases hc' with z | z
      · rw [z]; exact Nat.add_lt_add_left (by decide) N
      · rw [z]; exact Nat.lt_of_lt_of_le hlb (Nat.le_add_right _ _)
    · dsimp only at hk2 hl hG ⊢
      rw [hsz] at hl hG ⊢
      have kall : ∀ c o, s1.heap.get? c = some o → h2.get? c = some o := fun c o e => by
        have hlt : c < N := by rw [eN]; exact Heap.lt_size e
        exact hk2 c o (Nat.ne_of_lt (Nat.lt_of_lt_of_le hlt (Nat.le_add_right _ _))) (Nat.ne_of_lt (Nat.lt_of_lt_of_le hlt (Nat.le_add_right _ _))) (Nat.ne_of_lt hlt) (Nat.ne_of_lt (Nat.lt_of_lt_of_le hlt (Nat.le_add_right _ _))) (hk c o e)
      have I2 : Inv X pins σ H1 { s1 with heap := h2, toks := tk } := I1.kept kall
      have nd : as.Nodup := List.Pairwise.imp (fun h => Nat.ne_of_lt h) hG.rise
      have fr : ∀ c, s1.heap.objs.size ≤ c → H1 c = none := fun c hc => I1.hok.fresh hc
      have hlb : s1.heap.objs.size ≤ N + 5 := by rw [← eN]; exact Nat.le_add_right _ _
      have I3 : Inv X pins σ (upd H1 (N + 5) (.lst (as.map V.ref))) { s1 with heap := h2, toks := tk } := I2.take (h' := h2) (t' := tk) (fun b ob _ e => e) (I1.fpOk hlb (fr _ hlb)) ⟨by rw [List.length_map, hlen]; simp only [List.size_toArray]; omega, acc.toList, c, by rw [hacc]; exact vals_refs as, by rw [Array.toArray_toList]; exact hl⟩
      obtain ⟨H2, I4, up2, tk2⟩ := L2.DX.takeT (P := fun c vs => ∀ j : Nat, as[j]? = some c → ∃ x y, xs[j]? = some x ∧ ys[j]? = some y ∧ vs = [x, y]) I1 as _ I3 nd fun c hc => by
        have hab := hG.above c hc
        have hb : s1.heap.objs.size ≤ c := by rw [← eN]; exact Nat.le_trans (Nat.le_add_right N (5 + 1)) hab
        refine ⟨hb, by rw [upd_ne (fun z => by rw [z] at hab; exact absurd hab (Nat.not_succ_le_self _))]; exact fr c hb, ?_⟩
        obtain ⟨j, hj⟩ := List.mem_iff_getElem?.mp hc
        obtain ⟨u, v, g1, g2, g3⟩ := hG.pairs j c hj
        rw [List.getElem?_toArray] at g1 g2
        obtain ⟨x, hx, rxu⟩ := L2.DX.pget rx g1
        obtain ⟨y, hy, ryv⟩ := L2.DX.pget ry g2
        refine ⟨[x, y], fun j' hj' => ?_, fun H3 => ⟨by show 2 ≤ sizeLine; decide, [u, v], .cons rxu (.cons ryv .nil), ⟨_, g3, rfl, _, rfl⟩⟩⟩
        have e : j' = j := by
          have := (List.getElem?_inj (List.getElem?_eq_some_iff.mp hj).1 nd).mp (hj.trans hj'.symm)
          exact this.symm
        subst e
        exact ⟨x, y, hx, hy, rfl⟩
      refine ⟨.ref (N + 5), H2, I4, rfl, q H2 (N + 5) as (fun c o e => up2 c o (by rw [upd_ne (ne_of_none e (fr _ hlb))]; exact e)) (by rw [hlen]; simp only [List.size_toArray]; omega) (fun j c hj => ?_) (fr _ hlb) (up2 _ _ upd_same)⟩
      obtain ⟨vs, hP, e⟩ := tk2 c (List.mem_of_getElem? hj)
      obtain ⟨x, y, g1, g2, g3⟩ := hP j hj
      exact ⟨x, y, g1, g2, by rw [e, g3]⟩
  rcases hab with ⟨hqx, hqy⟩ | ⟨hqx, hqy⟩
  · obtain ⟨its, rv, p1, _⟩ := I1.list hqx
    obtain ⟨its2, rv2, p2', _⟩ := I1.list hqy
    refine zip_begins2 (begins_list a its.toArray) (begins_list b its2.toArray) p1.isList p2'.isList fun h' hz hTI hTO h1 h2 hsz hk => ?_
    exact fin rfl rv rv2 (draws_list (A := X.A.in1.in1.in1) hh _ a (Nat.ne_of_lt p1.lt) _) (draws_list (A := X.A.in1.in1.in1) hh _ b (Nat.ne_of_lt (Nat.lt_succ_of_lt p2'.lt)) _) p1.lt p2'.lt hz hTI hTO ⟨⟨_, h1, rfl, rfl⟩, p1.isList.at fun o e => hk _ o e⟩ ⟨⟨_, h2, rfl, rfl⟩, p2'.isList.at fun o e => hk _ o e⟩ hsz hk
  · obtain ⟨its, rv, p1, _⟩ := I1.tuple hqx
    obtain ⟨its2, rv2, p2', _⟩ := I1.tuple hqy
    have la : a < s1.heap.objs.size := let ⟨_, e, _⟩ := p1; Heap.lt_size e
    have lb : b < s1.heap.objs.size := let ⟨_, e, _⟩ := p2'; Heap.lt_size e
    refine zip_begins2 (begins_tuple a its.toArray) (begins_tuple b its2.toArray) p1 p2' fun h' hz hTI hTO h1 h2 hsz hk => ?_
    exact fin rfl rv rv2 (Draws.tuple (A := X.A.in1.in1.in1) hh _ a (Nat.ne_of_lt la) _) (Draws.tuple (A := X.A.in1.in1.in1) hh _ b (Nat.ne_of_lt (Nat.lt_succ_of_lt lb)) _) la lb hz hTI hTO ⟨⟨_, h1, rfl, rfl⟩, (show s1.heap.IsTuple a its.toArray from p1).at fun o e => hk _ o e⟩ ⟨⟨_, h2, rfl, rfl⟩, (show s1.heap.IsTuple b its2.toArray from p2').at fun o e => hk _ o e⟩ hsz hk
end
end Dz
set_option Elab.async false
set_option linter.all false
set_option maxRecDepth 100000
set_option maxHeartbeats 1000000
/-! Dn10: list(zip(..)), list(range(..)), what a call leaves behind trimmed -/
namespace Dn
open PySem PySem.Spec PyProof.Rows L2
theorem RVs.of_get {G : Ctx} {ι : List Addr} {H : Hp} : ∀ {xs : List D} {vs : List V}, xs.length = vs.length → (∀ (i : Nat) (x : D) (v : V), xs[i]? = some x → vs[i]? = some v → RV G ι H x v) → RVs G ι H xs vs
  | [], [], _, _ => .nil
  | [], _ :: _, h, _ => by simp at h
  | _ :: _, [], h, _ => by simp at h
  | x :: xs, v :: vs, h, k => .cons (k 0 x v rfl rfl) (RVs.of_get (by simpa using h) fun i y w h1 h2 => k (i + 1) y w (by simpa using h1) (by simpa using h2))
theorem zipD_len : ∀ (xs ys : List D), (zipD xs ys).length = min xs.length ys.length
  | [], ys => by simp [zipD]
  | x :: xs, [] => by simp [zipD]
  | x :: xs, y :: ys => by
    simp only [zipD, List.length_cons, zipD_len xs ys]
    omega
/-- the heap grows -/
theorem Ext.grow {ι : List Addr} {H H2 : Hp} (h : ∀ c o, H c = some o → H2 c = some o) : Ext ι ι H H2 := ⟨⟨[], by simp, by simp⟩, fun a o _ e => h a o e, fun a xs e => h a _ e, fun a o u e => h a _ e, fun a fs e => h a _ e, fun a e => by
  cases q : H a with
  | none => rfl
  | some o => rw [h a o q] at e; cases e⟩
theorem Rep.grow {G : Ctx} {ι : List Addr} {st : Store} {H H2 : Hp} (r : Rep G ι st H) (h : ∀ c o, H c = some o → H2 c = some o) : Rep G ι st H2 := ⟨r.len, r.nd, fun i c a h1 h2 => by
  have k := r.cell i c a h1 h2
  obtain ⟨o, q⟩ := k.there
  exact k.mono_of (Ext.grow h) (by rw [q, h a o q])⟩
section
variable {X : Cx} {G : Ctx} {W : WX} {e e2 : Expr} {ma : DA} {p p2 pos pos2 : Pos}
def dListZip (m : DA) : DE := fun env st => (m env st).bind fun xs st1 => match xs with
  | [x, y] => if isTupD x == isTupD y then (seq2Of x st1).must fun a st2 => (seq2Of y st2).must fun b st3 => mkLst (zipD a.1 b.1) st3 else .bad
  | _ => .bad
theorem r_listZip (hc : X.calm = true) (hg : Gl X "list") (hm : X.mg "list" = none) (hg2 : Gl X "zip") (hm2 : X.mg "zip" = none) (ha : PA X [e, e2] (sA G W ma)) (hK : X.K = G.K := by rfl)
    (hs2 : starEach [e, e2] X.env = (false, eval e X.env) :: starEach [e2] X.env := by rfl) (hpl2 : (backTo pos2 (starEach [e2] X.env)).any (·.1) = false := by rfl)
    (na : starEach [.Call (.Name "zip" p2) [e, e2] [] pos2] X.env = (false, eval (.Call (.Name "zip" p2) [e, e2] [] pos2) X.env) :: starEach [] X.env := by rfl) :
    PE X (.Call (.Name "list" p) [.Call (.Name "zip" p2) [e, e2] [] pos2] [] pos) (sE G W (dListZip ma)) := (Dz.pe_listZip hc hg hm hg2 hm2 ha hs2 hpl2 na).imp fun σ H Q ⟨ι, st, env, rp, re, q⟩ => by
  refine ⟨ι, st, env, rp, re, okR.bind q fun xs st1 ι1 H1 vs e1 rp1 rvs q1 => ?_⟩
  rw [hK]
  split at q1
  · rename_i x y
    cases rvs with
    | cons r1 rr =>
    cases rr with
    | cons r2 rr =>
    cases rr
    split at q1
    · rename_i hxy
      have hxy : isTupD x = isTupD y := by simpa using hxy
      cases h1 : seq2Of x st1 with
      | bad => rw [h1] at q1; exact q1.elim
      | exc _ _ => rw [h1] at q1; exact q1.elim
      | ok a st2 =>
        rw [h1] at q1
        obtain ⟨e2, A, ev, k1⟩ := seq2_ok rp1 r1 h1
        subst e2
        rw [R.must_ok] at q1
        cases h2 : seq2Of y st2 with
        | bad => rw [h2] at q1; exact q1.elim
        | exc _ _ => rw [h2] at q1; exact q1.elim
        | ok b st3 =>
          rw [h2] at q1
          obtain ⟨e3, B, ew, k2⟩ := seq2_ok rp1 r2 h2
          subst e3 ev ew
          rw [R.must_ok] at q1
          unfold mkLst at q1
          split at q1
          · rename_i hsz
            have fin : ∀ (vs ws : List V), RVs G ι1 H1 a.1 vs → RVs G ι1 H1 b.1 ws → min vs.length ws.length ≤ sizeLine ∧ ∀ (H2 : Hp) (l : Addr) (bs : List Addr), (∀ c o, H1 c = some o → H2 c = some o) → bs.length = min vs.length ws.length →
                (∀ (j : Nat) (c : Addr), bs[j]? = some c → ∃ x y, vs[j]? = some x ∧ ws[j]? = some y ∧ H2 c = some (.tup [x, y])) → H1 l = none → H2 l = some (.lst (bs.map V.ref)) → Q (.ref l) H2 := fun vs ws hv hw => by
              refine ⟨by rw [← hv.length, ← hw.length, ← zipD_len]; exact hsz, fun H2 l bs hg hl hb hn hl2 => ?_⟩
              have ex : Ext ι1 (ι1 ++ [l]) H1 H2 := (Ext.grow hg).adopt hn
              refine q1 (ι1 ++ [l]) H2 (.ref l) ex ((rp1.grow hg).adopt (rp1.free hn) (c := .lst (zipD a.1 b.1)) ⟨_, hl2, RVs.of_get (by rw [List.length_map, hl, zipD_len, hv.length, hw.length]) fun i z v hz hv' => ?_⟩) (.ref (by rw [← rp1.len]; simp))
              obtain ⟨x, y, g1, g2, ez⟩ := zipD_get _ _ _ _ hz
              subst ez
              rw [List.getElem?_map] at hv'
              obtain ⟨c, hc, ec⟩ := Option.map_eq_some_iff.mp hv'
              subst ec
              obtain ⟨u, w, g3, g4, g5⟩ := hb i c hc
              obtain ⟨u', g6, g7⟩ := hv.get g1
              obtain ⟨w', g8, g9⟩ := hw.get g2
              rw [g3] at g6
              rw [g4] at g8
              cases g6
              cases g8
              exact .tup g5 (.cons (g7.mono ex) (.cons (g9.mono ex) .nil))
            rcases k1 with ⟨t1, n, vs, hn, hq, hv, ec⟩ | ⟨t1, vs, hq, hv, ec⟩
            · rcases k2 with ⟨t2, k, ws, hn2, hq2, hv2, ec2⟩ | ⟨t2, ws, hq2, hv2, ec2⟩
              · exact ⟨A, B, vs, ws, rfl, .inl ⟨hq, hq2⟩, (fin vs ws hv hv2).1, (fin vs ws hv hv2).2⟩
              · rw [t1, t2] at hxy; cases hxy
            · rcases k2 with ⟨t2, k, ws, hn2, hq2, hv2, ec2⟩ | ⟨t2, ws, hq2, hv2, ec2⟩
              · rw [t1, t2] at hxy; cases hxy
              · exact ⟨A, B, vs, ws, rfl, .inr ⟨SqT.of hq, SqT.of hq2⟩, (fin vs ws hv hv2).1, (fin vs ws hv hv2).2⟩
          · exact q1.elim
    · exact q1.elim
  · exact q1.elim
/-! ### list(range(n)) -/
def rgOk (a b : Int) : Bool := smallR a && smallR b && decide ((b - a).toNat ≤ 2 ^ 24)
theorem rgOk_ok {a b : Int} (h : rgOk a b = true) : RgOk a b := by
  unfold rgOk at h
  rw [Bool.and_eq_true, Bool.and_eq_true] at h
  obtain ⟨h1, h2⟩ := smallR_ok h.1.1
  obtain ⟨h3, h4⟩ := smallR_ok h.1.2
  exact ⟨h1, h2, h3, h4, of_decide_eq_true h.2⟩
theorem rng_RVs {ι : List Addr} {H : Hp} (a b : Int) : RVs G ι H (rngD a b) (rgV a b) := by
  unfold rngD rgV
  exact RVs.of_get (by simp) fun i x v hx hv => by
    rw [List.getElem?_map] at hx hv
    obtain ⟨k, hk, e1⟩ := Option.map_eq_some_iff.mp hx
    obtain ⟨k', hk', e2⟩ := Option.map_eq_some_iff.mp hv
    rw [hk] at hk'
    cases hk'
    subst e1 e2
    exact .int _
def dListRg (m : DE) : DE := fun env st => (m env st).bind fun x st1 => match x with
  | .int j => if rgOk 0 j then alloc (.lst (rngD 0 j)) st1 else .bad
  | _ => .bad
theorem r_listRg {a : Expr} {m : DE} (hc : X.calm = true) (hg : Gl X "list") (hm : X.mg "list" = none) (hg2 : Gl X "range") (hm2 : X.mg "range" = none) (ha : PE X a (sE G W m)) (na : starEach [a] X.env = (false, eval a X.env) :: starEach [] X.env := by rfl)
    (na2 : starEach [.Call (.Name "range" p2) [a] [] pos2] X.env = (false, eval (.Call (.Name "range" p2) [a] [] pos2) X.env) :: starEach [] X.env := by rfl) :
    PE X (.Call (.Name "list" p) [.Call (.Name "range" p2) [a] [] pos2] [] pos) (sE G W (dListRg m)) := (pe_listRg hc hg hm (prg_1 hg2 hm2 ha na) na2).imp fun σ H Q ⟨ι, st, env, rp, re, q⟩ => by
  refine ⟨ι, st, env, rp, re, okR.bind q fun x st1 ι1 H1 v e1 rp1 rv q1 => ?_⟩
  split at q1
  · rename_i j
    cases rv
    split at q1
    · rename_i h
      refine ⟨j, rfl, rgOk_ok h, fun l hl => ok_alloc (c := .lst (rngD 0 j)) rp1 hl ⟨_, upd_same, rng_RVs 0 j⟩ q1⟩
    · exact q1.elim
  · exact q1.elim
end
end Dn
set_option Elab.async false
set_option linter.all false
set_option maxRecDepth 100000
set_option maxHeartbeats 1000000
/-! Dn11: what a call leaves behind that nobody holds is forgotten -/
namespace Dn
open PySem PySem.Spec PyProof.Rows L2
mutual
def D.lt (n : Nat) : D → Bool
  | .tup xs => D.lts n xs
  | .ref k => decide (k < n)
  | .err _ fs => D.ltf n fs
  | .non => true
  | .bl _ => true
  | .int _ => true
  | .str _ => true
  | .ty _ => true
  | .cl _ => true
  | .scr _ => true
def D.lts (n : Nat) : List D → Bool
  | [] => true
  | x :: xs => D.lt n x && D.lts n xs
def D.ltf (n : Nat) : List (Str × D) → Bool
  | [] => true
  | (_, x) :: xs => D.lt n x && D.ltf n xs
end
@[simp] theorem D.lt_tup (n : Nat) (xs : List D) : D.lt n (.tup xs) = D.lts n xs := by simp [D.lt]
@[simp] theorem D.lt_ref (n k : Nat) : D.lt n (.ref k) = decide (k < n) := by simp [D.lt]
@[simp] theorem D.lt_non (n : Nat) : D.lt n .non = true := by simp [D.lt]
@[simp] theorem D.lt_bl (n : Nat) (b : Bool) : D.lt n (.bl b) = true := by simp [D.lt]
@[simp] theorem D.lt_int (n : Nat) (b : Int) : D.lt n (.int b) = true := by simp [D.lt]
@[simp] theorem D.lt_str (n : Nat) (b : Str) : D.lt n (.str b) = true := by simp [D.lt]
@[simp] theorem D.lt_ty (n : Nat) (b : String) : D.lt n (.ty b) = true := by simp [D.lt]
@[simp] theorem D.lt_cl (n : Nat) (b : Nat) : D.lt n (.cl b) = true := by simp [D.lt]
@[simp] theorem D.lt_scr (n : Nat) (b : List Int) : D.lt n (.scr b) = true := by simp [D.lt]
@[simp] theorem D.lts_nil (n : Nat) : D.lts n [] = true := by simp [D.lts]
@[simp] theorem D.lts_cons (n : Nat) (x : D) (xs : List D) : D.lts n (x :: xs) = (D.lt n x && D.lts n xs) := by simp [D.lts]
theorem D.lts_all (n : Nat) (xs : List D) : D.lts n xs = xs.all (D.lt n) := by
  induction xs with
  | nil => simp
  | cons x xs ih => simp [ih]
theorem D.lts_mem {n : Nat} {xs : List D} : D.lts n xs = true ↔ ∀ x ∈ xs, D.lt n x = true := by rw [D.lts_all, List.all_eq_true]
mutual
theorem D.lt_mono {n m : Nat} (h : n ≤ m) : ∀ {d : D}, D.lt n d = true → D.lt m d = true
  | .tup xs, k => by
    rw [D.lt_tup] at k ⊢
    exact D.lts_mono h k
  | .ref i, k => by
    rw [D.lt_ref] at k ⊢
    have := of_decide_eq_true k
    exact decide_eq_true (by omega)
  | .err _ fs, k => by
    unfold D.lt at k ⊢
    exact D.ltf_mono h k
  | .non, _ => by simp
  | .bl _, _ => by simp
  | .int _, _ => by simp
  | .str _, _ => by simp
  | .ty _, _ => by simp
  | .cl _, _ => by simp
  | .scr _, _ => by simp
theorem D.lts_mono {n m : Nat} (h : n ≤ m) : ∀ {xs : List D}, D.lts n xs = true → D.lts m xs = true
  | [], _ => by simp
  | x :: xs, k => by
    rw [D.lts_cons, Bool.and_eq_true] at k ⊢
    exact ⟨D.lt_mono h k.1, D.lts_mono h k.2⟩
theorem D.ltf_mono {n m : Nat} (h : n ≤ m) : ∀ {xs : List (Str × D)}, D.ltf n xs = true → D.ltf m xs = true
  | [], _ => by simp [D.ltf]
  | (f, x) :: xs, k => by
    unfold D.ltf at k ⊢
    rw [Bool.and_eq_true] at k ⊢
    exact ⟨D.lt_mono h k.1, D.ltf_mono h k.2⟩
end
def kvLt {κ : Type} (n : Nat) (kvs : List (κ × D)) : Bool := kvs.all fun kv => D.lt n kv.2
def Cell.lt (n : Nat) : Cell → Bool
  | .lst xs => D.lts n xs
  | .frz xs => D.lts n xs
  | .dK kvs => kvLt n kvs
  | .dT kvs => kvLt n kvs
  | .ins _ fs => D.ltf n fs
  | .dN _ => true
/-- every cell's contents are cells of the store -/
def wf (st : Store) : Prop := ∀ c ∈ st, Cell.lt st.length c = true
section
variable {G : Ctx} {ι ι' : List Addr} {H : Hp} {st : Store}
mutual
theorem RV.lt : ∀ {d : D} {v : V}, RV G ι H d v → D.lt ι.length d = true
  | _, _, .non => by simp
  | _, _, .bl b => by simp
  | _, _, .int i => by simp
  | _, _, .str x => by simp
  | _, _, .tup s r => by
    rw [D.lt_tup]
    exact RVs.lt r
  | _, _, .ty n => by simp
  | _, _, .cl h => by simp
  | _, _, .scr h => by simp
  | _, _, .ref h => by
    rw [D.lt_ref]
    exact decide_eq_true (List.getElem?_eq_some_iff.mp h).1
  | _, _, .err h d r => by
    unfold D.lt
    exact RFs.lt r
theorem RVs.lt : ∀ {xs : List D} {vs : List V}, RVs G ι H xs vs → D.lts ι.length xs = true
  | _, _, .nil => by simp
  | _, _, .cons r t => by
    rw [D.lts_cons, Bool.and_eq_true]
    exact ⟨RV.lt r, RVs.lt t⟩
theorem RFs.lt : ∀ {xs : List (Str × D)} {vs : List (Str × V)}, RFs G ι H xs vs → D.ltf ι.length xs = true
  | _, _, .nil => by simp [D.ltf]
  | _, _, .cons r t => by
    unfold D.ltf
    rw [Bool.and_eq_true]
    exact ⟨RV.lt r, RFs.lt t⟩
end
theorem RKV.lt {κ : Type} {kvs : List (κ × D)} {ws : List (κ × V)} (r : RKV G ι H kvs ws) : kvLt ι.length kvs = true := by
  unfold kvLt
  induction r with
  | nil => rfl
  | cons r _ ih => rw [List.all_cons, Bool.and_eq_true]; exact ⟨r.lt, ih⟩
theorem Rep.wf (r : Rep G ι st H) : wf st := fun c hc => by
  obtain ⟨i, hi, e⟩ := List.getElem_of_mem hc
  have hl : i < ι.length := by rw [r.len]; exact hi
  have k := r.cell i c ι[i] (by rw [← e]; simp [hi]) (by simp [hl])
  rw [← r.len]
  cases c with
  | lst xs => obtain ⟨vs, h1, h2⟩ := k; exact h2.lt
  | frz xs => obtain ⟨q, vs, h1, h2⟩ := k; exact h2.lt
  | dK kvs => obtain ⟨ws, h1, h2⟩ := k; exact h2.lt
  | dT kvs => obtain ⟨ws, h1, h2⟩ := k; exact h2.lt
  | ins q fs => obtain ⟨C, dx, ws, h0, h1, h2⟩ := k; exact h2.lt
  | dN kvs => rfl
mutual
theorem RV.cut {n : Nat} : ∀ {d : D} {v : V}, RV G ι H d v → D.lt n d = true → RV G (ι.take n) H d v
  | _, _, .non, _ => .non
  | _, _, .bl b, _ => .bl b
  | _, _, .int i, _ => .int i
  | _, _, .str x, _ => .str x
  | _, _, .tup s r, h => .tup s (RVs.cut r (by simpa using h))
  | _, _, .ty n, _ => .ty n
  | _, _, .cl h, _ => .cl h
  | _, _, .scr h, _ => .scr h
  | _, _, .ref h, k => .ref (by
    rw [D.lt_ref] at k
    rw [List.getElem?_take_of_lt (of_decide_eq_true k)]
    exact h)
  | _, _, .err h d r, k => .err h d (RFs.cut r (by unfold D.lt at k; exact k))
theorem RVs.cut {n : Nat} : ∀ {xs : List D} {vs : List V}, RVs G ι H xs vs → D.lts n xs = true → RVs G (ι.take n) H xs vs
  | _, _, .nil, _ => .nil
  | _, _, .cons r t, h => by
    rw [D.lts_cons, Bool.and_eq_true] at h
    exact .cons (RV.cut r h.1) (RVs.cut t h.2)
theorem RFs.cut {n : Nat} : ∀ {xs : List (Str × D)} {vs : List (Str × V)}, RFs G ι H xs vs → D.ltf n xs = true → RFs G (ι.take n) H xs vs
  | _, _, .nil, _ => .nil
  | _, _, .cons r t, h => by
    unfold D.ltf at h
    rw [Bool.and_eq_true] at h
    exact .cons (RV.cut r h.1) (RFs.cut t h.2)
end
theorem RKV.cut {κ : Type} {n : Nat} {kvs : List (κ × D)} {ws : List (κ × V)} (r : RKV G ι H kvs ws) (h : kvLt n kvs = true) : RKV G (ι.take n) H kvs ws := by
  unfold kvLt at h
  induction r with
  | nil => exact .nil
  | cons r _ ih =>
    rw [List.all_cons, Bool.and_eq_true] at h
    exact .cons (r.cut h.1) (ih h.2)
theorem Rep.cut {g : Store} (r : Rep G ι (st ++ g) H) (w : Dn.wf st) : Rep G (ι.take st.length) st H := by
  have hl : st.length ≤ ι.length := by rw [r.len]; simp
  refine ⟨by rw [List.length_take]; omega, r.nd.sublist (List.take_sublist _ _), fun i c a h1 h2 => ?_⟩
  have hi : i < st.length := (List.getElem?_eq_some_iff.mp h1).1
  rw [List.getElem?_take_of_lt hi] at h2
  have k := r.cell i c a (by rw [List.getElem?_append_left hi]; exact h1) h2
  have hc := w c (List.mem_of_getElem? h1)
  cases c with
  | lst xs => obtain ⟨vs, h1, h2⟩ := k; exact ⟨vs, h1, h2.cut hc⟩
  | frz xs => obtain ⟨q, vs, h1, h2⟩ := k; exact ⟨q, vs, h1, h2.cut hc⟩
  | dK kvs => obtain ⟨ws, h1, h2⟩ := k; exact ⟨ws, h1, h2.cut hc⟩
  | dT kvs => obtain ⟨ws, h1, h2⟩ := k; exact ⟨ws, h1, h2.cut hc⟩
  | ins q fs => obtain ⟨C, dx, ws, h0, h1, h2⟩ := k; exact ⟨C, dx, ws, h0, h1, h2.cut hc⟩
  | dN kvs => exact k
theorem Ext.cut {H' : Hp} {n : Nat} (e : Ext ι ι' H H') (h : ι.length ≤ n) : Ext ι (ι'.take n) H H' := by
  obtain ⟨m, e1, e2⟩ := e.pre
  refine ⟨⟨m.take (n - ι.length), by rw [e1, List.take_append, List.take_of_length_le h], fun a ha => e2 a (List.mem_of_mem_take ha)⟩, e.keep, e.tup, e.frz, e.xd, e.there⟩
end
/-- r' is r but for cells that nobody holds (n0: the store's length ahead) -/
def Tr (n0 : Nat) (r r' : R D) : Prop := match r' with
  | .bad => True
  | .ok d st' => ∃ g, r = .ok d (st' ++ g) ∧ n0 ≤ st'.length ∧ D.lt st'.length d = true ∧ wf st'
  | .exc x st' => ∃ g, r = .exc x (st' ++ g) ∧ n0 ≤ st'.length ∧ D.ltf st'.length x.fs = true ∧ wf st'
theorem okR.trim {G : Ctx} {W : WX} {ι : List Addr} {H : Hp} {σ : L2.St} {Q : VK} {st : Store} {r r' : R D} (rp : Rep G ι st H) (t : Tr st.length r r') (h : okR G W ι H σ (RV G) Q r') : okR G W ι H σ (RV G) Q r := by
  cases r' with
  | bad => exact h.elim
  | ok d st' =>
    obtain ⟨g, e, hn, hd, hw⟩ := t
    subst e
    intro ι' H' v ex r rv
    exact h _ H' v (ex.cut (by rw [rp.len]; exact hn)) (r.cut hw) (rv.cut hd)
  | exc x st' =>
    obtain ⟨g, e, hn, hd, hw⟩ := t
    subst e
    intro ι' H' dd ws ex r hx hf
    exact h _ H' dd ws (ex.cut (by rw [rp.len]; exact hn)) (r.cut hw) hx (hf.cut hd)
theorem fn_trim {P : Program} {w : World} {K : PySem.W.Frag} {mg : Str → Option Value} {base : Heap} {CX : CXT} {k : Nat} {f : Addr} {fd : FuncData} {ps : List Str} {G : Ctx} {m m' : DF} (F : FnOk P w K mg base CX k f fd ps (sF G m))
    (h : ∀ xs st, wf st → D.lts st.length xs = true → Tr st.length (m xs st) (m' xs st)) : FnOk P w K mg base CX k f fd ps (sF G m') :=
  F.imp fun vs H Q E ⟨ι, st, xs, rp, rvs, q⟩ => ⟨ι, st, xs, rp, rvs, okR.trim rp (h xs st rp.wf (by rw [← rp.len]; exact rvs.lt)) q⟩
end Dn
set_option Elab.async false
set_option linter.all false
set_option maxRecDepth 100000
set_option maxHeartbeats 1000000
/-! Dn12: a module's defs -/
namespace Dn
open PySem PySem.Spec PyProof.Rows L2
/-- the def stands, by its name -/
structure Ge (K : PySem.W.Frag) (mg : Str → Option Value) (x : Str) (st : Stmt) : Prop where
  fn : ∃ fd, FunD K x x (defArgs st) (defBody st) (defScope st) [] [] (He.ga K x) fd
  at_ : mg x = some (.ref (He.ga K x))
/-- a def that does m -/
structure Has (P : Program) (w : World) (K : PySem.W.Frag) (mg : Str → Option Value) (base : Heap) (cls : Nat → Value) (k : Nat) (x : Str) (ps : List Str) (m : DF) : Prop where
  ex : ∃ fd, FnOk P w K mg base (L2.CX P w) k (He.ga K x) fd ps (sF ⟨K, cls, none⟩ m) ∧ Binds K fd ps []
  kp : PySem.W.keepIn K (.ref (He.ga K x)) = true
  at_ : mg x = some (.ref (He.ga K x))
section
variable {P : Program} {w : World} {K : PySem.W.Frag} {mg : Str → Option Value} {base : Heap} {cls : Nat → Value} {k : Nat} {x : Str} {ps N : List Str} {st : Stmt} {m m' : DF} {ds : DS}
theorem Has.mono (h : Has P w K mg base cls k x ps m) {j : Nat} (hj : k ≤ j) : Has P w K mg base cls j x ps m := ⟨let ⟨fd, F, b⟩ := h.ex; ⟨fd, F.mono hj, b⟩, h.kp, h.at_⟩
theorem Has.trim (h : Has P w K mg base cls k x ps m) (t : ∀ xs st, wf st → D.lts st.length xs = true → Tr st.length (m xs st) (m' xs st)) : Has P w K mg base cls k x ps m' := ⟨let ⟨fd, F, b⟩ := h.ex; ⟨fd, fn_trim F t, b⟩, h.kp, h.at_⟩
theorem Has.of (g : Ge K mg x st) (S : FnScope N ps (defScope st))
    (hb : ∀ (kV doc pm : Value) (an : Option Addr) (cdv ct : Value) (us : List Value), us.length = ps.length → bindArgs (PySem.W.fnOf x x (defArgs st) (defBody st) (defScope st) .none kV doc pm an cdv ct) ⟨us, []⟩ = pure (ps.zip us))
    (body : ∀ (cdv : Value) (A : Around) (outer : List PySem.Env) (s : Shared) (H : Hp) (E : XK), Room k (A.deeper (envOfC x (defScope st) s.heap.objs.size (He.ga K x) cdv)) →
      PSs (cxOf (L2.CX P w) P w K mg base N x (defScope st) (He.ga K x) cdv A outer s H E) (defBody st) (sS ⟨K, cls, none⟩ (fun c d _ H => E c d H) ds)) :
    Has P w K mg base cls (k + 1) x ps (dDef ps.length N.length ds) := by
  obtain ⟨fd, F⟩ := g.fn
  exact ⟨⟨fd, fn_den F S body, F.bindsN hb⟩, F.kp, g.at_⟩
theorem r_callH {X : Cx} {W : WX} {e : Expr} {es : List Expr} {ma : DA} {p pos : Pos} {cls : Nat → Value} (F : Has X.prog X.w X.K X.mg X.base cls k x ps m) (hr : Room k X.A) (hg : Gl X x) (tk : Takes X W)
    (ha : PA X (e :: es) (sA ⟨X.K, cls, none⟩ W ma)) (hdb : (x == ("__debug__" : Str)) = false := by decide) (he : starEach (e :: es) X.env = (false, eval e X.env) :: starEach es X.env := by rfl) (hpl : (backTo pos (starEach es X.env)).any (·.1) = false := by rfl) :
    PE X (.Call (.Name x p) (e :: es) [] pos) (sE ⟨X.K, cls, none⟩ W (dCall m ma)) := by
  obtain ⟨fd, G, b⟩ := F.ex
  exact r_call G hr hg F.at_ F.kp b tk ha hdb he hpl
end
theorem hu1 {A : Around} {k : Nat} (hr : Room k A) : A.units + 1 < cLine := by have := hr.un; omega
theorem hu64 {A : Around} {k : Nat} (hr : Room k A) : A.units + 64 < cLine := by have := hr.un; omega
theorem hub {A : Around} {k : Nat} (hr : Room k A) : A.units + 65 < cLine := by have := hr.un; omega
theorem tkW0 {X : Cx} : Takes X W0 := fun u s' ⟨a, B, sI, pins, σ, H, cls, d, e, I, nb, up, sky, na, os, ag, w⟩ => w.elim
/-- a built-in class by its name -/
theorem r_ty {X : Cx} {G : Ctx} {W : WX} {x : Str} {T : String} {p : Pos} (hg : Gl X x) (hm : X.mg x = none) (hv : bootBuiltins x = some (.type T)) (hn : x ≠ "__name__" := by decide) (hd : (x == ("__debug__" : Str)) = false := by decide) : PE X (.Name x p) (sE G W (dC (.ty T))) :=
  r_const (pe_bltn hg hm hv (v := .ty T) rfl hn hd) fun _ _ => .ty T
section
variable {X : Cx} {G : Ctx} {W : WX} {pos : Pos}
abbrev BG (X : Cx) (scope : Scope) (P : Cx → Prop) : Prop := ∀ (s : Shared) (H : Hp) (C : Addr) (cl : List (Str × Addr)) (fp : List Addr), P (X.blk s H scope (compEnvC scope cl C X.env) fp)
theorem r_lcV {elt tg iter : Expr} {ifs : List Expr} {scope : Scope} {own : List (Str × Nat)} {it : DI} {g : DG} {ws vs : List Nat} {tt : DB} {te : DE} (ok : BlkOk X.N X.env.scope scope own) (hc : X.calm = true) (hN : X.N.Nodup) (hi : PI X tg iter (sI G W it))
    (hg : BG X scope fun Y => PG Y tg (sG G ws g)) (ht : BG X scope fun Y => PTs Y ifs (sT G W0 tt)) (he : BG X scope fun Y => PE Y elt (sE G W0 te)) (hv : own.map (·.2) = vs := by rfl) (hws : ∀ i ∈ ws, i ∈ vs := by decide) (hs : ∀ x, foldedSetIterable iter X.env x = pure x := by intro _; rfl) :
    PE X (.ListComp elt [⟨tg, iter, ifs, 0⟩] scope pos) (sE G W (dLc it g tt te vs)) := by
  subst hv
  exact r_lc hws hc hN hi ok hg ht he hs
theorem r_setLcV {i : Nat} {y : Str} {py spos : Pos} {elt tg iter : Expr} {ifs : List Expr} {scope : Scope} {own : List (Str × Nat)} {it : DI} {g : DG} {ws vs : List Nat} {tt : DB} {te : DE} (ok : BlkOk X.N X.env.scope scope own) (hc : X.calm = true) (hN : X.N.Nodup) (hy : X.N[i]? = some y) (hyl : X.env.scope.names.lookup y = some .local)
    (hsw : swapsWith (.ListComp elt [⟨tg, iter, ifs, 0⟩] scope pos) (some (.Name y py)) spos.line X.env = pure true) (hi : PI X tg iter (sI G W it))
    (hg : BG X scope fun Y => PG Y tg (sG G ws g)) (ht : BG X scope fun Y => PTs Y ifs (sT G W0 tt)) (he : BG X scope fun Y => PE Y elt (sE G W0 te)) (hv : own.map (·.2) = vs := by rfl) (hws : ∀ i ∈ ws, i ∈ vs := by decide) (hs : ∀ x, foldedSetIterable iter X.env x = pure x := by intro _; rfl) :
    PS X (.Assign [.Name y py] (.ListComp elt [⟨tg, iter, ifs, 0⟩] scope pos) spos) (sS G W (dAsg (dLc it g tt te vs) (gNm i))) := by
  subst hv
  exact r_setLc hws hc hN hy hyl hsw hi ok hg ht he hs
end
end Dn
set_option Elab.async false
set_option linter.all false
set_option maxRecDepth 100000
set_option maxHeartbeats 4000000
namespace Dn
open PySem PySem.Spec PyProof.Rows L2
/-! ### repr of lists and tuples, for a def that the top calls (the guards are known there) -/
end Dn
set_option Elab.async false
set_option linter.all false
set_option maxRecDepth 100000
set_option maxHeartbeats 4000000
namespace Dn
open PySem PySem.Spec PyProof.Rows L2
/-! ### a def that the top calls: the guards are known -/
structure FnG (P : Program) (w : World) (K : PySem.W.Frag) (mg : Str → Option Value) (base : Heap) (CX : CXT) (k : Nat) (f : Addr) (fd : FuncData) (ps : List Str) (sp : Sp) : Prop where
  run : ∀ (A : Around) (outer : List PySem.Env) (s : Shared) (H : Hp) (args : Args) (us : List Value) (vs : List V) (Q : VK) (E : XK), A.guards = some [] → Room k A → Env0 P w K mg base A outer s H → BindsTo s fd args (ps.zip us) → Vals vs us → sp vs H Q E →
    codeAny (model P w) A (.call (.ref f) args) (CR CX outer P w H s Q E) s
/-- by its body -/
theorem fnG_of {CX : CXT} {P : Program} {w : World} {K : PySem.W.Frag} {mg : Str → Option Value} {base : Heap} {k : Nat} {f : Addr} {x qual : Str} {params : Arguments} {body : List Stmt} {scope : Scope} {dvs : List V} {kws : List (Str × V)} {fd : FuncData} {N ps : List Str} {sp : Sp}
    (F : FunD K x qual params body scope dvs kws f fd) (S : FnScope N ps scope) (len : ∀ vs H Q E, sp vs H Q E → vs.length = ps.length)
    (hbody : ∀ (cdv : Value) (A : Around) (outer : List PySem.Env) (s : Shared) (H : Hp) (vs : List V) (Q : VK) (E : XK), (A.deeper (envOfC qual scope s.heap.objs.size f cdv)).guards = some [] → Room k (A.deeper (envOfC qual scope s.heap.objs.size f cdv)) → sp vs H Q E →
      ∃ t, PSs (cxOf CX P w K mg base N qual scope f cdv A outer s H E) body t ∧ t { nx := fun _ H' => Q .non H', rt := Q } (L2.start N vs) H) : FnG P w K mg base CX (k + 1) f fd ps sp := by
  obtain ⟨oc, od, dV, kV, doc, pm, an, cdv, ct, osl, rfl, lk, hcd, _, _⟩ := F.ex
  refine ⟨fun A outer s H args us vs Q E hg hr e0 hb r hsp => ?_⟩
  have hl := len _ _ _ _ hsp
  have kept : ∀ b o, base.get? b = some o → s.heap.get? b = some o := fun b o e => (e0.bs b o e).1
  have KX : K.In s.heap := e0.mod.kin.keeps kept
  have lim : s.heap.NoLimit := e0.mod.nolimit.keeps kept
  refine codeAny_call_function hr.depth (KX _ _ lk) rfl S.co S.gen rfl (PySem.W.codeRec_of KX hcd) (hb _ _ _ _ ?_)
  refine wpAny_newFunctionEnv_cells S.kind (fun ⟨n, v⟩ hy => (S.par n (List.of_mem_zip hy).1).imp id fun q => ⟨q, PySem.W.cellsFrom_some _ _ _ (.inl q)⟩) fun env he s1 y => ?_
  subst he
  refine ⟨lim.keeps y.toInCall.keep, codeAny_func ?_⟩
  obtain ⟨t, ht, hq⟩ := hbody cdv A outer s H vs Q E hg (hr.deeper _) hsp
  have I : Inv (cxOf CX P w K mg base N qual scope f cdv A outer s H E) [] (L2.start N vs) H s1 := inv_start S hr.hd e0 hl r y
  refine wpAny_mono (ht.run [] s1 (L2.start N vs) H _ I hq) (fun fl s' hs => ?_) fun e s' hs => hs
  cases fl with
  | ret u =>
    obtain ⟨v, σ', H', J, rv, q⟩ := hs
    exact ⟨v, H', J.os, J.bare, J.base, J.hok, rv, q⟩
  | next =>
    obtain ⟨σ', H', J, q⟩ := hs
    exact ⟨.non, H', J.os, J.bare, J.base, J.hok, rfl, q⟩
  | brk =>
    obtain ⟨_, _, _, q⟩ := hs
    exact q.elim
  | cont =>
    obtain ⟨_, _, _, q⟩ := hs
    exact q.elim
/-- the call of the law by the top: H0 is what is tracked ahead of it (the script alone, or nothing) -/
theorem callG_core {P : Program} {w : World} {K : PySem.W.Frag} {mg mb : Str → Option Value} {CX : CXT} {k : Nat} {fa a : Addr} {fd : FuncData} {x : Str} {sp : Sp} {s : Shared} {vs : List Value} {ns : List Int}
    (KX : K.In s.heap) (hns : s.heap.Ns mainGlobals mg) (hb : s.heap.Ns builtinsNs mb) (hbb : ∀ x : Str, x ≠ "__name__" → mb x = bootBuiltins x) (hlim : s.heap.NoLimit) (hg : s.gens = #[])
    (ha : s.heap.get? a = some { cls := .type "list", data := .seq vs.toArray }) (hr : Room k callerA)
    (F : ∀ base : Heap, K.In base → base.Ns mainGlobals mg → FnG P w K mg base CX k fa fd [x] sp) (hbind : ∀ (s : Shared) (u : Value), BindsTo s fd ⟨[u], []⟩ [(x, u)])
    (hsp : ∀ H : Hp, Only H → SqL K H a (ns.map V.int) → sp [.ref a] H (fun v _ => v = .bl true) fun _ _ _ => False)
    (hCX : ∀ H e s', CX [] H s (fun _ _ _ => False) e s' → False)
    {H : Hp} (hO : Only H) (hS : SqL K H a (ns.map V.int)) (hok : HOk P w H s.heap) (hA : ∀ b, H b ≠ none → b = a) (hK : H a ≠ none → K.lookup a = none) :
    codeAny (model P w) callerA (.call (.ref fa) ⟨[.ref a], []⟩) (fun r s' => r = .ok (.ret (.bool true)) ∧ OldK s.heap s'.heap ∧ s'.os = s.os ∧ AllBare s'.gens) s := by
  have free : ∀ b : Addr, b ≠ a → H b = none := fun b hb => Classical.byContradiction fun q => hb (hA b q)
  have ns_of : ∀ {b : Addr} {m : Str → Option Value}, s.heap.Ns b m → (hidT s.heap H).Ns b m := fun {b m} ⟨o, es, ep, e, d, r⟩ => ⟨o, es, ep, hidT_get e (free b fun q => by
    subst q
    rw [ha] at e
    cases e
    exact absurd (show Data.seq vs.toArray _ = Data.dict es ep from d) (by intro z; cases z)), d, r⟩
  have kin : K.In (hidT s.heap H) := fun b o e => hidT_get (KX b o e) (by
    by_cases q : H b = none
    · exact q
    · have hba := hA b q
      subst hba
      rw [hK q] at e
      cases e)
  have lim : (hidT s.heap H).NoLimit := let ⟨mc, h1, h2⟩ := hlim; ⟨mc, ns_of h1, h2⟩
  have e0 : Env0 P w K mg (hidT s.heap H) callerA [] s H := ⟨rfl, ⟨kin, ns_of hns, ⟨mb, ns_of hb, hbb⟩, lim⟩, fun b o e => of_hidT e, Nat.le_of_eq (hidT_size _ _), trivial, fun b z => absurd (show b ∈ ([] : List Addr) from z) (by simp), hok, .of_eq hg⟩
  refine codeAny_mono ((F _ kin (ns_of hns)).run callerA [] s H ⟨[.ref a], []⟩ [.ref a] [.ref a] _ _ rfl hr e0 (hbind s (.ref a)) (.cons rfl .nil) (hsp H hO hS)) fun r s' h => ?_
  match r, h with
  | .error e, h => exact (hCX H e s' h).elim
  | .ok .next, h => exact False.elim h
  | .ok .brk, h => exact False.elim h
  | .ok .cont, h => exact False.elim h
  | .ok (.ret u), ⟨v, H', os, bare, un, hok', r', q⟩ =>
    obtain rfl : v = .bl true := q
    obtain rfl : u = Value.bool true := r'
    refine ⟨rfl, OldK.of_keep fun b o e => ?_, os, bare⟩
    rcases hO b with z | ⟨ob, xs, z⟩
    · exact un.keep b o e z (by intro y; exact absurd (show b ∈ ([] : List Addr) from y) (by simp)) (by simp)
    · obtain ⟨e1, _⟩ := hok b _ z
      obtain ⟨e2, _⟩ := hok' b _ (un.frzs b ob _ z)
      rw [e] at e1
      cases e1
      exact e2
theorem callG {P : Program} {w : World} {K : PySem.W.Frag} {mg mb : Str → Option Value} {CX : CXT} {k : Nat} {fa a : Addr} {fd : FuncData} {x : Str} {sp : Sp} {s : Shared} {vs : List Value} {ns : List Int}
    (KX : K.In s.heap) (hns : s.heap.Ns mainGlobals mg) (hb : s.heap.Ns builtinsNs mb) (hbb : ∀ x : Str, x ≠ "__name__" → mb x = bootBuiltins x) (hlim : s.heap.NoLimit) (hg : s.gens = #[])
    (ha : s.heap.get? a = some { cls := .type "list", data := .seq vs.toArray }) (hi : IntsAre vs ns) (hl : ns.length ≤ sizeLine) (hr : Room k callerA)
    (F : ∀ base : Heap, K.In base → base.Ns mainGlobals mg → FnG P w K mg base CX k fa fd [x] sp) (hbind : ∀ (s : Shared) (u : Value), BindsTo s fd ⟨[u], []⟩ [(x, u)])
    (hsp : ∀ H : Hp, Only H → SqL K H a (ns.map V.int) → sp [.ref a] H (fun v _ => v = .bl true) fun _ _ _ => False)
    (hCX : ∀ H e s', CX [] H s (fun _ _ _ => False) e s' → False) :
    codeAny (model P w) callerA (.call (.ref fa) ⟨[.ref a], []⟩) (fun r s' => r = .ok (.ret (.bool true)) ∧ OldK s.heap s'.heap ∧ s'.os = s.os ∧ AllBare s'.gens) s := by
  have rv := vals_ints hi
  by_cases hk : K.lookup a = none
  · refine callG_core KX hns hb hbb hlim hg ha hr F hbind hsp hCX (H := fun b => if b = a then some (.frz { cls := .type "list", data := .seq vs.toArray } (.lst (ns.map V.int))) else none) (fun b => ?_) (.inl (.inr ⟨{ cls := .type "list", data := .seq vs.toArray }, if_pos rfl⟩)) (fun b u z => ?_) (fun b z => Classical.byContradiction fun hb => z (if_neg hb)) fun _ => hk
    · by_cases hb : b = a
      · exact .inr ⟨_, _, if_pos hb⟩
      · exact .inl (if_neg hb)
    · by_cases hb : b = a
      · subst hb
        have z' := (if_pos rfl).symm.trans z
        cases z'
        exact ⟨ha, by rw [List.length_map]; exact hl, vs, _, rv, ha⟩
      · have z' := (if_neg hb).symm.trans z
        cases z'
  · obtain ⟨o, hk⟩ := Option.ne_none_iff_exists'.mp hk
    have e := KX a o hk
    rw [ha] at e
    cases e
    exact callG_core KX hns hb hbb hlim hg ha hr F hbind hsp hCX (H := fun _ => none) (fun _ => .inl rfl) (.inr ⟨_, vs.toArray, _, hk, rfl, rfl, rfl, by rw [List.size_toArray, hi.length]; exact hl, by simpa using rv⟩) (fun b u z => by cases z) (fun b z => absurd rfl z) fun z => absurd rfl z
/-- a law, by such a def -/
theorem walkG {l : PySem.W.OpenLaw} {n k : Nat} {q : Program} {loose : List Str} {XP : (Str → Option Value) → Heap → Prop} {YP : World → Heap → Prop} {d : DefRec} {x : Str}
    (hn : l.most = some n) (hn2 : n ≤ sizeLine) (hdf : d.params.defaults = []) (hr : Room k callerA)
    (F : ∀ (w : World) (mg : Str → Option Value) (fa : Addr) (h : Heap), YP w h → h.Ns mainGlobals mg → mg d.name = some (.ref fa) →
      ∃ (K : PySem.W.Frag) (fd : FuncData) (sp : Sp), K.In h ∧ (∀ (s : Shared) (u : Value), BindsTo s fd ⟨[u], []⟩ [(x, u)]) ∧
        (∀ (H : Hp) (a : Addr) (ns : List Int), ns.length ≤ n → Only H → SqL K H a (ns.map V.int) → sp [.ref a] H (fun v _ => v = .bl true) fun _ _ _ => False) ∧
        ∀ base : Heap, K.In base → base.Ns mainGlobals mg → FnG l.prog w K mg base (L2.CX l.prog w) k fa fd [x] sp) :
    PySem.W.WalkO q loose XP YP l.row.toRowW d [] (fun f vs => PySem.call f vs) := by
  refine Att.attach_call hn hdf fun w s₀ s₁ mg mb fa o pm cd doc a vs ns G Y ho hd hcd hmg hobj hints hlen hg => ?_
  obtain ⟨K, fd, sp, KX, hb, hsp, hF⟩ := F w mg fa _ Y G.T.g hmg
  exact callG KX G.T.g G.T.b G.T.builtins G.T.nolimit hg hobj hints (Nat.le_trans hlen hn2) hr hF hb (fun H hO hS => hsp H a ns hlen hO hS) fun H e s' ⟨_, _, _, _, _, _, _, _, _, _, _, _, hE⟩ => hE
theorem fnG_den {P : Program} {w : World} {K : PySem.W.Frag} {mg : Str → Option Value} {base : Heap} {x qual : Str} {params : Arguments} {body : List Stmt} {scope : Scope} {dvs : List V} {kws : List (Str × V)} {f : Addr} {fd : FuncData} {N ps : List Str} {k : Nat} {G : Ctx} {m : DS}
    (F : FunD K x qual params body scope dvs kws f fd) (S : FnScope N ps scope)
    (hb : ∀ (cdv : Value) (A : Around) (outer : List PySem.Env) (s : Shared) (H : Hp) (E : XK), (A.deeper (envOfC qual scope s.heap.objs.size f cdv)).guards = some [] → Room k (A.deeper (envOfC qual scope s.heap.objs.size f cdv)) →
      PSs (cxOf (L2.CX P w) P w K mg base N qual scope f cdv A outer s H E) body (sS G (fun c d _ H => E c d H) m)) :
    FnG P w K mg base (L2.CX P w) (k + 1) f fd ps (sF G (dDef ps.length N.length m)) := by
  have len : ∀ vs H Q E, sF G (dDef ps.length N.length m) vs H Q E → vs.length = ps.length := fun vs H Q E ⟨ι, st, xs, rp, rvs, q⟩ => by
    unfold dDef at q
    split at q
    · rename_i h
      rw [← rvs.length, h]
    · exact q.elim
  refine fnG_of F S len fun cdv A outer s H vs Q E hg hr h => ⟨_, hb cdv A outer s H E hg hr, ?_⟩
  have hl := len vs H Q E h
  obtain ⟨ι, st, xs, rp, rvs, q⟩ := h
  unfold dDef at q
  rw [if_pos (by rw [rvs.length, hl])] at q
  refine ⟨ι, st, xs.map some ++ List.replicate (N.length - ps.length) none, rp, ?_, ?_⟩
  · refine ⟨?_, fun i d h => ?_⟩
    · unfold L2.start
      simp [rvs.length, hl]
    · by_cases hi : i < xs.length
      · rw [List.getElem?_append_left (by simpa using hi), List.getElem?_map] at h
        cases e : xs[i]? with
        | none => rw [e] at h; cases h
        | some y =>
          rw [e] at h
          cases h
          obtain ⟨v, h1, h2⟩ := rvs.get e
          refine ⟨v, ?_, h2⟩
          unfold L2.start
          rw [List.getElem?_append_left (by rw [List.length_map, ← rvs.length]; exact hi), List.getElem?_map, h1]
          rfl
      · rw [List.getElem?_append_right (by simpa using hi), List.getElem?_replicate] at h
        split at h <;> cases h
  · cases hm : m (xs.map some ++ List.replicate (N.length - ps.length) none) st with
    | nx env1 st1 =>
      rw [hm] at q
      exact fun ι' H' σ' e r _ => q ι' H' .non e r .non
    | rt d st1 =>
      rw [hm] at q
      exact q
    | ex xx env1 st1 =>
      rw [hm] at q
      exact fun ι' H' σ' dd ws e r _ h1 h2 => q ι' H' dd ws e r h1 h2
    | bk env1 st1 => rw [hm] at q; exact q.elim
    | ct env1 st1 => rw [hm] at q; exact q.elim
    | bad => rw [hm] at q; exact q.elim
/-- the law's def, by its body; then what is asked of it at the top -/
theorem GeG {P : Program} {w : World} {K : PySem.W.Frag} {mg : Str → Option Value} {base : Heap} {cls : Nat → Value} {k : Nat} {x : Str} {ps N : List Str} {st : Stmt} {ds : DS} {fd : FuncData} {f : Addr} (F : FunD K x x (defArgs st) (defBody st) (defScope st) [] [] f fd) (S : FnScope N ps (defScope st))
    (body : ∀ (cdv : Value) (A : Around) (outer : List PySem.Env) (s : Shared) (H : Hp) (E : XK), (A.deeper (envOfC x (defScope st) s.heap.objs.size f cdv)).guards = some [] → Room k (A.deeper (envOfC x (defScope st) s.heap.objs.size f cdv)) →
      PSs (cxOf (L2.CX P w) P w K mg base N x (defScope st) f cdv A outer s H E) (defBody st) (sS ⟨K, cls, none⟩ (fun c d _ H => E c d H) ds)) :
    FnG P w K mg base (L2.CX P w) (k + 1) f fd ps (sF ⟨K, cls, none⟩ (dDef ps.length N.length ds)) := fnG_den F S body
theorem sF_law {G : Ctx} {m : DF} {H : Hp} {a : Addr} {ns : List Int} (hO : Only H) (hS : SqL G.K H a (ns.map V.int)) {st' : Store} (h : m [.scr ns] [] = .ok (.bl true) st') : sF G m [.ref a] H (fun v _ => v = .bl true) fun _ _ _ => False := by
  have hs : ScrL G.K H a ns := by
    rcases hS with (q | ⟨o, q⟩) | q
    · rcases hO a with z | ⟨o, xs, z⟩
      · rw [z] at q; cases q
      · rw [z] at q; cases q
    · exact .inl ⟨o, q⟩
    · exact .inr q
  refine ⟨[], [], [.scr ns], ⟨rfl, List.nodup_nil, fun i c b h => by cases h⟩, .cons (.scr hs) .nil, ?_⟩
  rw [h]
  intro ι' H' v e r rv
  cases rv
  rfl
end Dn
set_option Elab.async false
set_option linter.all false
set_option maxRecDepth 100000
set_option maxHeartbeats 1000000
/-! Dn15: {k: v, ..} with keys that are numbers or texts -/
namespace Dn
open PySem PySem.Spec PyProof.Rows L2
def dPairs : List (DE × DE) → Env → Store → R (List (D × D))
  | [], _, st => .ok [] st
  | (k, v) :: r, env, st => (k env st).bind fun x st1 => (v env st1).bind fun y st2 => (dPairs r env st2).bind fun ps st3 => .ok ((x, y) :: ps) st3
inductive RPs (G : Ctx) (ι : List Addr) (H : Hp) : List (D × D) → List (V × V) → Prop
  | nil : RPs G ι H [] []
  | cons {x y : D} {v w : V} {xs : List (D × D)} {vs : List (V × V)} : RV G ι H x v → RV G ι H y w → RPs G ι H xs vs → RPs G ι H ((x, y) :: xs) ((v, w) :: vs)
theorem RPs.mono {G : Ctx} {ι ι' : List Addr} {H H' : Hp} (e : Ext ι ι' H H') {xs : List (D × D)} {vs : List (V × V)} (h : RPs G ι H xs vs) : RPs G ι' H' xs vs := by
  induction h with
  | nil => exact .nil
  | cons a b _ ih => exact .cons (a.mono e) (b.mono e) ih
theorem RKV.len {κ : Type} {G : Ctx} {ι : List Addr} {H : Hp} {kvs : List (κ × D)} {ws : List (κ × V)} (r : RKV G ι H kvs ws) : kvs.length = ws.length := by
  induction r with
  | nil => rfl
  | cons _ _ ih => rw [List.length_cons, List.length_cons, ih]
/-- the places of the pairs -/
inductive FitP (X : Cx) (G : Ctx) (W : WX) : List (Option Expr) → List Expr → List (DE × DE) → Prop
  | nil : FitP X G W [] [] []
  | cons {k v : Expr} {mk mv : DE} {ks : List (Option Expr)} {vs : List Expr} {ms : List (DE × DE)} : PE X k (sE G W mk) → PE X v (sE G W mv) → FitP X G W ks vs ms → FitP X G W (some k :: ks) (v :: vs) ((mk, mv) :: ms)
section
variable {X : Cx} {G : Ctx} {W : WX} {pos : Pos}
theorem FitP.all : ∀ {ks : List (Option Expr)} {vs : List Expr} {ms : List (DE × DE)}, FitP X G W ks vs ms → ks.all (·.isSome) = true ∧ ks.length = vs.length
  | _, _, _, .nil => ⟨rfl, rfl⟩
  | _, _, _, .cons _ _ t => ⟨by simpa using t.all.1, by simp [t.all.2]⟩
end
end Dn
set_option Elab.async false
set_option linter.all false
set_option maxRecDepth 100000
set_option maxHeartbeats 4000000
/-! Dn16: own exception classes over ValueError or IndexError (by the mro's tail): fields stored, made -/
namespace Dx
open PySem PySem.Spec PySem.W PySem.Calls PyProof.Rows PySem.HandSPX L2
open PySem.Builtin PySem.Builtin.ObjectAttr
/-! ### own classes ahead of a built-in one's mro -/
def tailIs (tl : List Value) : List Value → Bool
  | .ref _ :: r => tailIs tl r
  | l => l == tl
/-- what is used of the built-in class B -/
structure Base (B newId initId : String) (tl : List Value) : Prop where
  F : ExcBaseFacts B newId initId tl
  pass : ∀ self : Value, refuseLoop self "__setattr__" tl = pure ()
  obj : tl.contains (.type "object") = true
theorem base_V : Base "ValueError" "ValueError.__new__" "ValueError.__init__" [.type "ValueError", .type "Exception", .type "BaseException", .type "object"] := ⟨F.excBase_ValueError, F.store_ValueError.passes, by decide +kernel⟩
theorem base_I : Base "IndexError" "IndexError.__new__" "IndexError.__init__" [.type "IndexError", .type "LookupError", .type "Exception", .type "BaseException", .type "object"] := ⟨F.excBase_IndexError, F.store_IndexError.passes, by decide +kernel⟩
/-! ### over the layer -/
/-- what the written part says of the class -/
structure XC (K : PySem.W.Frag) (C : Addr) (newId : String) (tl : List Value) : Prop where
  cls : ∃ nm q N bs bm sn sub ab col dd k0 k1 k2 k3 k5, K.lookup C = some (excClassObj nm q C N bs bm true sn sub ab col dd k0 k1 k2 k3 k5 newId) ∧ tailIs tl bm = true
  sa : PySem.W.findIn K (.ref C) "__setattr__" = some (some (.builtin "object.__setattr__"))
  exC : PySem.W.subIn K (.ref C) (.type "BaseException") = some true
  tyC : PySem.W.typeIn K (.ref C) = some (.type "type")
  kC : PySem.W.keepIn K (.ref C) = true
end Dx
set_option Elab.async false
set_option linter.all false
set_option maxRecDepth 100000
set_option maxHeartbeats 4000000
/-! Dn17: the base's __init__ called, fields stored, an exception made -/
namespace Dx
open PySem PySem.Spec PyProof.Rows L2
end Dx
set_option Elab.async false
set_option linter.all false
set_option maxRecDepth 100000
set_option maxHeartbeats 4000000
/-! Dn18: try with clauses 'except x as n', several; isinstance of an exception with fields -/
namespace Dx
open PySem PySem.Spec PyProof.Rows L2
end Dx
set_option Elab.async false
set_option linter.all false
set_option maxRecDepth 100000
set_option maxHeartbeats 2000000
/-! Dn19: a law's exception classes; what is asked of an exception that is handled -/
namespace Dx
open PySem PySem.Spec PyProof.Rows L2 Dn
/-- an own exception class: its name, the own classes above it (itself, too, by number), whether it is over IndexError (else ValueError) -/
structure ClsD where
  name : Str
  anc : List Nat
  ie : Bool
def ClsD.base (d : ClsD) : String := if d.ie then "IndexError" else "ValueError"
def ClsD.newId (d : ClsD) : String := if d.ie then "IndexError.__new__" else "ValueError.__new__"
def ClsD.initId (d : ClsD) : String := if d.ie then "IndexError.__init__" else "ValueError.__init__"
def ClsD.names (d : ClsD) : List String := if d.ie then ["IndexError", "LookupError", "Exception", "BaseException", "object"] else ["ValueError", "Exception", "BaseException", "object"]
def ClsD.tl (d : ClsD) : List Value := d.names.map .type
theorem ClsD.ok (d : ClsD) : Base d.base d.newId d.initId d.tl := by
  obtain ⟨n, a, i⟩ := d
  cases i
  · exact base_V
  · exact base_I
def clsA (K : PySem.W.Frag) (d : ClsD) : Addr := He.ga K d.name
/-! ### e.f, isinstance(e, ..) in a suite -/
end Dx
set_option Elab.async false
set_option linter.all false
set_option maxRecDepth 100000
set_option maxHeartbeats 2000000
/-! Dn20: try, its suites, what is raised -/
namespace Dx
open PySem PySem.Spec PyProof.Rows L2 Dn
/-! ### no exception inside -/
mutual
def cold : D → Bool
  | .tup xs => colds xs
  | .err _ _ => false
  | _ => true
def colds : List D → Bool
  | [] => true
  | x :: xs => cold x && colds xs
end
/-! ### denotations -/
/-! ### in a suite -/
/-! ### try -/
end Dx
set_option Elab.async false
set_option linter.all false
set_option maxRecDepth 100000
set_option maxHeartbeats 2000000
/-! Dn21: raise C(..); the __init__s of the exceptions; what is read off the heap -/
namespace Dx
open PySem PySem.Spec PyProof.Rows L2 Dn
/-- an __init__ that stores its parameters -/
def spI (C : Addr) (fs : List Str) : Sp := fun vs H Q E => ∃ (a : Addr) (ws : List V), vs = .ref a :: ws ∧ ws.length = fs.length ∧ H a = some (exo a C none) ∧
  ∀ (dx : Addr) (H' : Hp), H dx = none → dx ≠ a → H' a = some (exo a C (some dx)) → H' dx = some (exd dx (fs.zip ws).reverse) → (∀ b, b ≠ a → b ≠ dx → H' b = H b) → Q .non H'
structure Hax (P : Program) (w : World) (K : PySem.W.Frag) (mg : Str → Option Value) (base : Heap) (ct : List ClsD) (k c : Nat) (x : Str) (fs : List Str) : Prop where
  ex : ∃ (d : ClsD) (fI : Addr) (fd : FuncData) (ps : List Str) (j : Nat), ct[c]? = some d ∧ mg x = some (.ref (clsA K d)) ∧ XC K (clsA K d) d.newId d.tl ∧ PySem.W.findIn K (.ref (clsA K d)) "__init__" = some (some (.ref fI)) ∧ PySem.W.typeIn K (.ref fI) = some (.type "function") ∧
    FnOk P w K mg base (L2.CX P w) j fI fd ps (spI (clsA K d) fs) ∧ Binds K fd ps [] ∧ j + 1 ≤ k ∧ fs.length ≤ 900
theorem Hax.mono {P : Program} {w : World} {K : PySem.W.Frag} {mg : Str → Option Value} {base : Heap} {ct : List ClsD} {k k' c : Nat} {x : Str} {fs : List Str} (h : Hax P w K mg base ct k c x fs) (hk : k ≤ k') : Hax P w K mg base ct k' c x fs :=
  ⟨let ⟨d, fI, fd, ps, j, h1, h2, h3, h4, h5, h6, h7, h8, h9⟩ := h.ex; ⟨d, fI, fd, ps, j, h1, h2, h3, h4, h5, h6, h7, Nat.le_trans h8 hk, h9⟩⟩
section
variable {G : Dn.Ctx} {ι : List Addr} {H : Hp}
theorem RFs.append : ∀ {xs ys : List (Str × D)} {vs ws : List (Str × V)}, RFs G ι H xs vs → RFs G ι H ys ws → RFs G ι H (xs ++ ys) (vs ++ ws)
  | _, _, _, _, .nil, s => s
  | _, _, _, _, .cons r t, s => .cons r (RFs.append t s)
end
/-! ### the __init__s -/
/-! ### read off the heap -/
end Dx
set_option Elab.async false
set_option linter.all false
set_option maxRecDepth 100000
set_option maxHeartbeats 1000000
/-! Dt1: texts: split, join, str(n), int(text), f-strings, constants of the module -/
namespace Dn
open PySem PySem.Spec PyProof.Rows L2
section
variable {G : Ctx} {W : WX} {ι : List Addr} {st : Store} {H : Hp} {σ : L2.St} {Q : VK}
def mSplit (o : D) (xs : List D) (st : Store) : R D := match o, xs with
  | .str a, [.str b] => if (b.length == 0) = false ∧ a.length + 2 ≤ sizeLine then alloc (.lst ((Txt.split a b).map D.str)) st else .bad
  | _, _ => .bad
def bStr (xs : List D) (st : Store) : R D := match xs with
  | [.int i] => if i.natAbs.log2 < 1920 then .ok (.str (toString i)) st else .bad
  | _ => .bad
def vNeg (x : D) (st : Store) : R D := match x with
  | .int i => .ok (.int (-i)) st
  | _ => .bad
theorem f_neg : Fits1 G (fun x H Q => ∃ i, x = .int i ∧ Q (.int (-i)) H) vNeg := by
  intro W ι st H σ x v Q rp rx q
  unfold vNeg at q
  split at q
  · cases rx
    exact ⟨_, rfl, okR.ok q rp (.int _)⟩
  · exact q.elim
/-- int(text) -/
def bIntS (xs : List D) (st : Store) : R D := match xs with
  | [.str a] => (match PySem.intText? a with
    | some n => if a.length ≤ 640 then .ok (.int n) st else .bad
    | none => .bad)
  | _ => .bad
end
section
variable {X : Cx} {G : Ctx} {W : WX} {e : Expr} {m : DE}
def dJs : List DE → Str → Env → Store → R Str
  | [], acc, _, st => .ok acc st
  | m :: ms, acc, env, st => (m env st).bind fun x st1 => match x with
    | .str y => if (acc ++ y).length ≤ sizeLine then dJs ms (acc ++ y) env st1 else .bad
    | _ => .bad
/-! constants of the module -/
end
end Dn
set_option Elab.async false
set_option linter.all false
set_option maxRecDepth 100000
set_option maxHeartbeats 1000000
/-! Du1: int of a text or a truth -/
namespace Dn
open PySem PySem.Spec PyProof.Rows L2
section
variable {G : Ctx} {W : WX} {ι : List Addr} {st : Store} {H : Hp} {σ : L2.St} {Q : VK}
def bIntB (xs : List D) (st : Store) : R D := match xs with
  | [.str a] => bIntS [.str a] st
  | xs => bInt xs st
end
end Dn
set_option Elab.async false
set_option linter.all false
set_option maxRecDepth 100000
set_option maxHeartbeats 1000000
/-! Du10: max of a list of whole numbers -/
namespace Dn
open PySem PySem.Spec PyProof.Rows L2
def intsD : List D → Option (List Int)
  | [] => some []
  | .int i :: ds => (intsD ds).map fun ns => i :: ns
  | _ :: _ => none
theorem intsD_map : ∀ ns : List Int, intsD (ns.map D.int) = some ns
  | [] => rfl
  | n :: ns => by
    rw [List.map_cons]
    show (intsD (ns.map D.int)).map (fun ms => n :: ms) = _
    rw [intsD_map ns]
    rfl
theorem intsD_eq : ∀ {ds : List D} {ns : List Int}, intsD ds = some ns → ds = ns.map D.int
  | [], ns, e => by cases e; rfl
  | d :: ds, ns, e => by
    cases d with
    | int i =>
      obtain ⟨ms, e1, rfl⟩ := Option.map_eq_some_iff.mp (show (intsD ds).map (fun ns => i :: ns) = some ns from e)
      rw [List.map_cons, ← intsD_eq e1]
    | _ => cases e
def maxI : List Int → Int
  | [] => 0
  | [i] => i
  | i :: j :: ns => if maxI (j :: ns) ≤ i then i else maxI (j :: ns)
theorem maxI_mem : ∀ {ns : List Int}, ns ≠ [] → maxI ns ∈ ns
  | [], h => absurd rfl h
  | [i], _ => by simp [maxI]
  | i :: j :: ns, _ => by
    unfold maxI
    split
    · exact List.mem_cons_self ..
    · exact List.mem_cons_of_mem _ (maxI_mem (ns := j :: ns) (by simp))
theorem maxI_le : ∀ {ns : List Int} {m : Int}, m ∈ ns → m ≤ maxI ns
  | [i], m, h => by
    rw [List.mem_singleton.mp h]
    exact Int.le_refl _
  | i :: j :: ns, m, h => by
    unfold maxI
    rcases List.mem_cons.mp h with rfl | h
    · split
      · exact Int.le_refl _
      · omega
    · have := maxI_le (ns := j :: ns) h
      split <;> omega
def bMaxL (xs : List D) (st : Store) : R D := match xs with
  | [x] => (match (lstAt x st).bind intsD with
    | some ns => if ns = [] then .bad else .ok (.int (maxI ns)) st
    | none => .bad)
  | _ => .bad
section
variable {G : Ctx} {ι : List Addr} {H : Hp}
theorem f_maxL : FitsL G (rMax G.K) bMaxL := by
  intro W ι st H σ xs vs Q rp rx q
  unfold bMaxL at q
  split at q
  · cases rx with
    | cons r1 r2 =>
    cases r2
    split at q
    · rename_i ns e
      split at q
      · exact q.elim
      · rename_i hne
        obtain ⟨ds, e1, e2⟩ := Option.bind_eq_some_iff.mp e
        obtain ⟨A, ws, rfl, hs, hw⟩ := lstAt_ok rp r1 e1
        rw [intsD_eq e2] at hw
        obtain rfl := RVs.ints hw
        refine ⟨A, ns, rfl, hs, List.length_pos_iff.mpr hne, fun m hm hle => ?_⟩
        have e : m = maxI ns := by
          have h1 := maxI_le hm
          have h2 := hle _ (maxI_mem hne)
          omega
        rw [e]
        exact okR.ok q rp (.int _)
    · exact q.elim
  · exact q.elim
end
end Dn
set_option Elab.async false
set_option linter.all false
set_option maxRecDepth 100000
set_option maxHeartbeats 1000000
/-! Du11: {k: v} with a tuple as its key; list(..) of a dict whose keys are tuples -/
namespace Dn
open PySem PySem.Spec PyProof.Rows L2
theorem dictT_walk {prog : Program} {w : World} {K : Type} [DecidableEq K] {knd : HeapKind prog w K} {A : Around} {E : Value → Shared → Prop} {s : Shared} {env : PySem.Env} {keys : List (Option Expr)} {values : List Expr} {pos : Pos} {Q : Value → Shared → Prop} (hu : knd.room A)
    (hall : keys.all (·.isSome) = true) (hl : keys.length = values.length) (h0 : keys ≠ []) (hlen : keys.length ≤ 15)
    (h : wpAny (model prog w) A (evalPairs (pairTrees keys values env pos)) (fun vs s₁ => ∃ ps, CarriesH knd s₁.heap vs ps ∧ s₁.heap.DictOfH knd s.heap.objs.size [] ∧
      ∀ h' tk, h'.DictOfH knd s.heap.objs.size (storedAllH [] ps) → Heap.SameBut s.heap.objs.size s₁.heap h' → Q (.ref s.heap.objs.size) { s₁ with heap := h', toks := tk }) E
      { s with heap := s.heap.push { cls := .type "dict", data := .dict #[] } }) :
    wpAny (model prog w) A (eval (.Dict keys values pos) env) Q E s := by
  have hn := pairTrees_length keys values env pos hall hl
  have h0' : pairTrees keys values env pos ≠ [] := fun he => by
    rw [he] at hn
    exact h0 (List.length_eq_zero_iff.mp hn.symm)
  rw [arm_eval_Dict, zip_pairTrees keys values env pos hall hl, dictDisplay_pairs _ h0' (by omega)]
  exact wpAny_bind (wpAny_standAt (wpAny_bind (wpAny_subDictH (knd := knd) (Q := fun d s' => wpAny (model prog w) A (pure (Value.ref d)) Q E s') hu (by omega)
    (wpAny_mono h (fun vs s₁ h₁ => by obtain ⟨ps, hc, hm, hq⟩ := h₁; exact ⟨ps, hc, hm, fun h' tk a b => wpAny_pure (hq h' tk a b)⟩) fun _ _ e => e))))
def tDispT (trs : List (TE × TE)) : TE := fun σ H Q => ∀ p, H p = none → tPairs trs σ (upd H p (.dT [])) fun ps H2 => H2 p = some (.dT []) ∧ ∃ (ks : List Key) (b : Addr) (v : V), ps = [(.ref b, v)] ∧ H2 b = some (.tup (ks.map kV)) ∧ Q (.ref p) (upd H2 p (.dT [(ks, v)]))
theorem pe_dispT {X : Cx} {pos : Pos} {keys : List (Option Expr)} {values : List Expr} {trs : List (TE × TE)} (hu : X.A.units + 1 < cLine) (h : PPs X pos keys values trs) (hall : keys.all (·.isSome) = true) (hl : keys.length = values.length) (h0 : keys ≠ [])
    (h15 : keys.length ≤ 15) : PE X (.Dict keys values pos) (tDispT trs) := by
  refine ⟨fun pins s σ H Q I q => ?_⟩
  have hn := I.hok.fresh (Nat.le_refl s.heap.objs.size)
  have I1 := I.laid (a := s.heap.objs.size) (o := .dT []) (h' := s.heap.push { cls := .type "dict", data := .dict #[] }) (t' := s.toks) (fun _ _ q => Heap.get?_push_of_some _ q) (Nat.le_refl _) (dt_empty s.heap I.big)
  refine dictT_walk (knd := tupleKind (mixKind X.prog X.w)) (show X.A.units < cLine by omega) hall hl h0 h15 (thn (h.run pins _ σ _ _ I1 (q _ hn)) fun ws s2 ⟨ps, H2, I2, rel, e, ks, b, v, ep, eb, q2⟩ => ?_)
  subst ep
  obtain ⟨z, hd, xs, r0, dd⟩ := dt_of I2.hok e
  cases r0
  cases rel with
  | @cons _ u _ us ru rt =>
  cases rt
  obtain ⟨u1, u2⟩ := u
  obtain ⟨r1, r2⟩ := ru
  cases (show u1 = Value.ref b from r1)
  refine ⟨[(ks, b, u2)], ⟨rfl, rfl, key_of I2.hok eb, trivial⟩, dd, fun h' tk dd' hs => ⟨.ref s.heap.objs.size, _, ?_, rfl, q2⟩⟩
  obtain ⟨o, es, ep, hq, h2, h3, h4, _, h5⟩ := dd'
  refine d_write I2 (by rw [e]; exact True.intro) hs ⟨o, hq⟩ ⟨by rw [List.length_singleton]; rw [sizeLine_eq]; omega, hd, [(ks, b, u2)], .cons ⟨rfl, ?_, r2⟩ .nil, o, es, ep, hq, h2, h3, h4, h5⟩
  show upd H2 s.heap.objs.size _ b = _
  rw [upd_ne (ne_of eb e (fun z => nomatch z))]
  exact eb
section
variable {X : Cx} {G : Ctx} {W : WX} {pos : Pos} {ι : List Addr} {H : Hp} {st : Store}
def endT (n : Nat) (x y : D) (st : Store) : R D := match st[n]?, x with
  | some (.dT []), .tup ds => (match keysOf ds with
    | some ks => .ok (.ref n) (st.set n (.dT [(ks, y)]))
    | none => .bad)
  | _, _ => .bad
def dDispT (mk mv : DE) : DE := fun env st => (mk env (st ++ [.dT []])).bind fun x st1 => (mv env st1).bind fun y st2 => endT st.length x y st2
theorem r_dispT {k v : Expr} {mk mv : DE} (hu : X.A.units + 1 < cLine) (hk : PE X k (sE G W mk)) (hv : PE X v (sE G W mv)) : PE X (.Dict [some k] [v] pos) (sE G W (dDispT mk mv)) :=
  (pe_dispT (pos := pos) hu (pps_cons hk hv pps_nil) rfl rfl (by simp) (Nat.le_of_ble_eq_true rfl)).imp fun σ H Q ⟨ι, st, env, rp, re, q⟩ p hp => by
    have rp1 : Rep G (ι ++ [p]) (st ++ [.dT []]) (upd H p (.dT [])) := rp.alloc hp ⟨[], upd_same, .nil⟩
    refine ⟨_, _, env, rp1, re.mono (Ext.push hp), okR.bind (okR.mono q (Ext.push hp)) fun x st1 ι1 H1 w e1 rp2 rx q1 => ?_⟩
    refine ⟨ι1, st1, env, rp2, (re.mono (Ext.push hp)).mono e1, okR.bind q1 fun y st2 ι2 H2 w2 e2 rp3 ry q2 => ?_⟩
    show H2 p = some (.dT []) ∧ _
    unfold endT at q2
    split at q2
    · rename_i ds e3
      split at q2
      · rename_i ks e4
        have hn : ι2[st.length]? = some p := e2.ix (e1.ix (by rw [← rp.len]; simp))
        obtain ⟨u, hu, ru⟩ := rp3.cell _ _ p e3 hn
        cases ru
        have rx2 := rx.mono e2
        cases rx2 with
        | @tup b _ vs hb hvs =>
          refine ⟨hu, ks, b, w2, rfl, by rw [hb, keys_ok hvs e4], ?_⟩
          exact q2 ι2 _ _ (Ext.write hn hu rfl) (rp3.write hn hu rfl ⟨_, upd_same, .cons (ry.mono (Ext.write hn hu rfl)) .nil⟩) (.ref hn)
      · exact q2.elim
    · exact q2.elim
/-! ### list(d) -/
def bListT (xs : List D) (st : Store) : R D := match xs with
  | [.ref n] => (match st[n]? with
    | some (.dT kvs) => alloc (.lst (kvs.map fun kv => .tup (kv.1.map kD))) st
    | _ => .bad)
  | _ => .bad
theorem kD_RVs : ∀ ks : List Key, RVs G ι H (ks.map kD) (ks.map kV)
  | [] => .nil
  | k :: ks => .cons (kV_RV k) (kD_RVs ks)
theorem keysL : ∀ {kvs : List (List Key × D)} {ws : List (List Key × V)} {bs : List Addr}, RKV G ι H kvs ws → IsKeys H ws bs → RVs G ι H (kvs.map fun kv => .tup (kv.1.map kD)) (bs.map V.ref)
  | [], _, _, .nil, .nil => .nil
  | (k, x) :: kvs, _, _, .cons r t, .cons e t2 => .cons (.tup e (kD_RVs k)) (keysL t t2)
theorem f_listT : FitsL G (fun xs H Q => ∃ d kvs, xs = [V.ref d] ∧ Rd H d (.dT kvs) ∧ ∀ p bs, H p = none → IsKeys H kvs bs → Q (.ref p) (upd H p (.lst (bs.map V.ref)))) bListT := by
  intro W ι st H σ xs vs Q rp rx q
  unfold bListT at q
  split at q
  · cases rx with
    | cons r1 r2 =>
    cases r2
    cases r1 with
    | @ref n a hn =>
    split at q
    · rename_i kvs e0
      obtain ⟨ws, h1, h2⟩ := rp.cell _ _ a e0 hn
      exact ⟨a, ws, rfl, .inl h1, fun p bs hp hb => ok_alloc (c := .lst _) rp hp ⟨_, upd_same, (keysL h2 hb).mono (Ext.push hp)⟩ q⟩
    · exact q.elim
  · exact q.elim
end
end Dn
set_option Elab.async false
set_option linter.all false
set_option maxRecDepth 100000
set_option maxHeartbeats 1000000
/-! Du2: zip(one, other, strict=True) of two tuples of one length -/
namespace Dn
open PySem PySem.Spec PyProof.Rows L2
end Dn
set_option Elab.async false
set_option linter.all false
set_option maxRecDepth 100000
set_option maxHeartbeats 1000000
/-! Du3: *=, divmod, loops over reversed, xs[1::-1], a def with a default -/
namespace Dn
open PySem PySem.Spec PyProof.Rows L2
/-! ### xs[1::-1] of a list of two items or more -/
/-! ### a def whose last parameter has 0 for a default -/
structure GeV (K : PySem.W.Frag) (mg : Str → Option Value) (x : Str) (st : Stmt) : Prop where
  fn : ∃ fd, FunD K x x (defArgs st) (defBody st) (defScope st) [.int 0] [] (He.ga K x) fd
  at_ : mg x = some (.ref (He.ga K x))
structure HasV (P : Program) (w : World) (K : PySem.W.Frag) (mg : Str → Option Value) (base : Heap) (cls : Nat → Value) (k : Nat) (x : Str) (ps : List Str) (m : DF) : Prop where
  ex : ∃ fd, FnOk P w K mg base (L2.CX P w) k (He.ga K x) fd ps (sF ⟨K, cls, none⟩ m) ∧ Binds K fd ps [] ∧ ∃ ds, Vals [.int 0] ds ∧ Binds K fd ps ds
  kp : PySem.W.keepIn K (.ref (He.ga K x)) = true
  at_ : mg x = some (.ref (He.ga K x))
section
variable {P : Program} {w : World} {K : PySem.W.Frag} {mg : Str → Option Value} {base : Heap} {cls : Nat → Value} {k : Nat} {x : Str} {ps N : List Str} {st : Stmt} {m m' : DF} {ds : DS}
theorem HasV.mono (h : HasV P w K mg base cls k x ps m) {j : Nat} (hj : k ≤ j) : HasV P w K mg base cls j x ps m := ⟨let ⟨fd, F, b⟩ := h.ex; ⟨fd, F.mono hj, b⟩, h.kp, h.at_⟩
theorem HasV.trim (h : HasV P w K mg base cls k x ps m) (t : ∀ xs st, wf st → D.lts st.length xs = true → Tr st.length (m xs st) (m' xs st)) : HasV P w K mg base cls k x ps m' := ⟨let ⟨fd, F, b⟩ := h.ex; ⟨fd, fn_trim F t, b⟩, h.kp, h.at_⟩
theorem HasV.of {n : Nat} (g : GeV K mg x st) (S : FnScope N ps (defScope st)) (hp : ps.length = n + 1)
    (h0 : ∀ (T : Addr) (kV doc pm : Value) (an : Option Addr) (cdv ct : Value) (us its : List Value), us.length = n → its.length = 1 →
      ∃ k, bindArgs (PySem.W.fnOf x x (defArgs st) (defBody st) (defScope st) (.ref T) kV doc pm an cdv ct) ⟨us, []⟩ = seqItems? (.ref T) >>= k ∧ k (some its.toArray) = pure (ps.zip (us ++ its.drop 0)))
    (h1 : ∀ (T : Addr) (kV doc pm : Value) (an : Option Addr) (cdv ct : Value) (us its : List Value), us.length = n + 1 → its.length = 1 →
      ∃ k, bindArgs (PySem.W.fnOf x x (defArgs st) (defBody st) (defScope st) (.ref T) kV doc pm an cdv ct) ⟨us, []⟩ = seqItems? (.ref T) >>= k ∧ k (some its.toArray) = pure (ps.zip (us ++ its.drop 1)))
    (body : ∀ (cdv : Value) (A : Around) (outer : List PySem.Env) (s : Shared) (H : Hp) (E : XK), Room k (A.deeper (envOfC x (defScope st) s.heap.objs.size (He.ga K x) cdv)) →
      PSs (cxOf (L2.CX P w) P w K mg base N x (defScope st) (He.ga K x) cdv A outer s H E) (defBody st) (sS ⟨K, cls, none⟩ (fun c d _ H => E c d H) ds)) :
    HasV P w K mg base cls (k + 1) x ps (dDef ps.length N.length ds) := by
  obtain ⟨fd, F⟩ := g.fn
  obtain ⟨d0, r0, b0⟩ := F.binds1 n 0 (by simp) (by simp [hp]) h0
  obtain ⟨d1, r1, b1⟩ := F.binds1 (n + 1) 1 (by simp) (by simp [hp]) h1
  cases r1
  exact ⟨⟨fd, fn_den F S body, b1, d0, r0, b0⟩, F.kp, g.at_⟩
end
end Dn
set_option Elab.async false
set_option linter.all false
set_option maxRecDepth 100000
set_option maxHeartbeats 1000000
/-! Du4: sorted, of a list of pairs of ints -/
namespace Dn
open PySem PySem.Spec PyProof.Rows L2
abbrev IPr := Int × Int
def prD (p : IPr) : D := .tup [.int p.1, .int p.2]
def prOf : D → Option IPr
  | .tup [.int i, .int j] => some (i, j)
  | _ => none
theorem prOf_eq {d : D} {p : IPr} (h : prOf d = some p) : d = prD p := by
  unfold prOf at h
  split at h
  · cases h
    rfl
  · cases h
def prsOf : List D → Option (List IPr)
  | [] => some []
  | d :: ds => (prOf d).bind fun p => (prsOf ds).map fun ps => p :: ps
def sortP (ps : List IPr) : List IPr := ps.mergeSort fun a b => !SrtO.lexB b a
theorem sortP_perm (ps : List IPr) : (sortP ps).Perm ps := List.mergeSort_perm ps _
theorem sortP_srt (ps : List IPr) : (sortP ps).Pairwise fun a b => SrtO.lexB b a = false := by
  have q := List.pairwise_mergeSort (le := fun a b : IPr => !SrtO.lexB b a) (fun a b c h1 h2 => by
    simp only [Bool.not_eq_true'] at h1 h2 ⊢
    have h1 := SrtO.lexB_no.mp h1
    have h2 := SrtO.lexB_no.mp h2
    exact SrtO.lexB_no.mpr (by omega)) (fun a b => by
    simp only [Bool.or_eq_true, Bool.not_eq_true']
    by_cases h : SrtO.lexB b a = false
    · exact .inl h
    · refine .inr (SrtO.lexB_no.mpr ?_)
      have := SrtO.lexB_iff.mp (by simpa using h)
      omega) ps
  exact q.imp fun h => by simpa using h
theorem srt_uniq {l m : List IPr} (hl : l.Pairwise fun a b => SrtO.lexB b a = false) (hm : m.Pairwise fun a b => SrtO.lexB b a = false) (h : l.Perm m) : l = m :=
  List.Perm.eq_of_pairwise (le := fun a b => SrtO.lexB b a = false) (fun a b _ _ h1 h2 => by
    have h1 := SrtO.lexB_no.mp h1
    have h2 := SrtO.lexB_no.mp h2
    exact Prod.ext (by omega) (by omega)) hl hm h
def bSorted (xs : List D) (st : Store) : R D := match xs with
  | [x] => (match (lstAt x st).bind prsOf with
    | some ps => alloc (.lst ((sortP ps).map prD)) st
    | none => .bad)
  | _ => .bad
section
variable {G : Ctx} {ι : List Addr} {H : Hp}
def keyV (H : Hp) : V → IPr
  | .ref t => (match H t with
    | some (.tup [.int i, .int j]) => (i, j)
    | _ => (0, 0))
  | _ => (0, 0)
theorem keyV_ok {d : D} {p : IPr} {v : V} (h : prOf d = some p) (r : RV G ι H d v) : keyV H v = p ∧ ∃ t, v = .ref t ∧ H t = some (.tup [.int p.1, .int p.2]) := by
  rw [prOf_eq h] at r
  cases r with
  | tup ha hv =>
  cases hv with
  | cons r1 hv =>
  cases hv with
  | cons r2 hv =>
  cases hv
  cases r1
  cases r2
  refine ⟨?_, _, rfl, ha⟩
  show (match H _ with
    | some (.tup [.int i, .int j]) => (i, j)
    | _ => (0, 0)) = p
  rw [ha]
theorem prKeys_ok : ∀ {ds : List D} {ps : List IPr} {ws : List V}, prsOf ds = some ps → RVs G ι H ds ws → ws.map (keyV H) = ps ∧ ∀ x ∈ ws, ∃ t, x = .ref t ∧ H t = some (.tup [.int (keyV H x).1, .int (keyV H x).2])
  | [], ps, ws, h, r => by
    cases h
    cases r
    exact ⟨rfl, fun x hx => by cases hx⟩
  | d :: ds, ps, ws, h, r => by
    obtain ⟨p, h1, h2⟩ := Option.bind_eq_some_iff.mp h
    obtain ⟨qs, h3, rfl⟩ := Option.map_eq_some_iff.mp h2
    cases r with
    | cons r1 r2 =>
    obtain ⟨e1, t, e2, e3⟩ := keyV_ok h1 r1
    obtain ⟨e4, e5⟩ := prKeys_ok h3 r2
    refine ⟨by rw [List.map_cons, e1, e4], fun x hx => ?_⟩
    rcases List.mem_cons.mp hx with rfl | hx
    · exact ⟨t, e2, by rw [e1]; exact e3⟩
    · exact e5 x hx
theorem RVs.of_keys {ys : List V} (h : ∀ x ∈ ys, ∃ t, x = .ref t ∧ H t = some (.tup [.int (keyV H x).1, .int (keyV H x).2])) : RVs G ι H ((ys.map (keyV H)).map prD) ys := by
  induction ys with
  | nil => exact .nil
  | cons y ys ih =>
    obtain ⟨t, e1, e2⟩ := h y (List.mem_cons_self ..)
    refine .cons ?_ (ih fun x hx => h x (List.mem_cons_of_mem _ hx))
    have r : RV G ι H (prD (keyV H y)) (.ref t) := .tup e2 (.cons (.int _) (.cons (.int _) .nil))
    rw [← e1] at r
    exact r
theorem f_sorted : FitsL G (rSortedPO G.K) bSorted := by
  intro W ι st H σ xs vs Q rp rx q
  unfold bSorted at q
  split at q
  · cases rx with
    | cons r1 r2 =>
    cases r2
    split at q
    · rename_i ps e
      obtain ⟨ds, e1, e2⟩ := Option.bind_eq_some_iff.mp e
      obtain ⟨A, ws, rfl, hs, hw⟩ := lstAt_ok rp r1 e1
      obtain ⟨k1, k2⟩ := prKeys_ok e2 hw
      refine ⟨A, ws, keyV H, rfl, hs, k2, fun ys p h1 h2 hp => ?_⟩
      have ek : sortP ps = ys.map (keyV H) := by
        refine srt_uniq (sortP_srt ps) (List.pairwise_map.mpr (h1.imp fun h => h)) ?_
        refine (sortP_perm ps).trans ?_
        rw [← k1]
        exact (h2.perm.map _).symm
      refine ok_alloc (c := .lst _) rp hp ⟨_, upd_same, ?_⟩ q
      rw [ek]
      exact (RVs.of_keys (G := G) (ι := ι) (H := H) fun x hx => k2 x (h2.perm.mem_iff.mp hx)).mono (Ext.push hp)
    · exact q.elim
  · exact q.elim
end
end Dn
set_option Elab.async false
set_option linter.all false
set_option maxRecDepth 100000
set_option maxHeartbeats 1000000
/-! Du5: x += y of ints -/
namespace Dn
open PySem PySem.Spec PyProof.Rows L2
end Dn
set_option Elab.async false
set_option linter.all false
set_option maxRecDepth 100000
set_option maxHeartbeats 1000000
/-! Du6: sum(list of tuples, ()) -/
namespace Dn
open PySem PySem.Spec PyProof.Rows L2
def kp (h h' : Heap) : Prop := ∀ b o, h.get? b = some o → h'.get? b = some o
theorem lk {h h' : Heap} {L : Addr} {items : Array Value} (x : h.IsList L items) (k : kp h h') : h'.IsList L items := let ⟨o, ho, r⟩ := x; ⟨o, k _ o ho, r⟩
end Dn
set_option Elab.async false
set_option linter.all false
set_option maxRecDepth 100000
set_option maxHeartbeats 1000000
/-! Du7: t[::-1] of a tuple -/
namespace Dn
open PySem PySem.Spec PyProof.Rows L2 HT
end Dn
set_option Elab.async false
set_option linter.all false
set_option maxRecDepth 100000
set_option maxHeartbeats 1000000
/-! Du8: x + y and x - y, x an int or a bool, y an int -/
namespace Dn
open PySem PySem.Spec PyProof.Rows L2
end Dn
set_option Elab.async false
set_option linter.all false
set_option maxRecDepth 100000
set_option maxHeartbeats 1000000
/-! Du9: dicts whose keys are tuples in tuples of whole numbers, their values whole numbers -/
namespace Dn
open PySem PySem.Spec PyProof.Rows L2
section
variable {H H' : Hp} {h : Heap} {P : Program} {w : World}
mutual
theorem hash_any (w w' : World) : ∀ {k : NestedKey} {v : V}, vkey H k v → k.hash w = k.hash w'
  | .num i, v, q => rfl
  | .tup ks, v, q => by
    unfold vkey at q
    obtain ⟨b, vs, _, _, q⟩ := q
    rw [NestedKey.hash, NestedKey.hash, hashes_any w w' q]
  | .none, v, q => by unfold vkey at q; exact q.elim
  | .text _, v, q => by unfold vkey at q; exact q.elim
theorem hashes_any (w w' : World) : ∀ {ks : List NestedKey} {vs : List V}, vkeys H ks vs → NestedKey.hashes w ks = NestedKey.hashes w' ks
  | [], [], _ => rfl
  | k :: ks, v :: vs, q => by
    unfold vkeys at q
    rw [NestedKey.hashes, NestedKey.hashes, hash_any w w' q.1, hashes_any w w' q.2]
  | [], _ :: _, q => by unfold vkeys at q; exact q.elim
  | _ :: _, [], q => by unfold vkeys at q; exact q.elim
end
mutual
theorem vkey_is (ok : HOk P w H h) : ∀ {k : NestedKey} {v : V} {u : Value}, vkey H k v → RelV v u → NestedIs h k u
  | .num i, v, u, q, r => by
    unfold vkey at q
    subst q
    obtain ⟨t, rfl⟩ := (show ∃ t, u = Value.int i t from r)
    exact .int _ _
  | .tup ks, v, u, q, r => by
    unfold vkey at q
    obtain ⟨b, vs, rfl, hb, q⟩ := q
    cases (show u = Value.ref b from r)
    obtain ⟨_, its, rv, o, h1, h2, n, h3⟩ := (show ObjOk P w H h b (.tup vs) from ok b _ hb)
    exact .tup h1 h2 h3 (by simpa using vkeys_is ok q rv)
  | .none, v, u, q, r => by unfold vkey at q; exact q.elim
  | .text _, v, u, q, r => by unfold vkey at q; exact q.elim
theorem vkeys_is (ok : HOk P w H h) : ∀ {ks : List NestedKey} {vs : List V} {us : List Value}, vkeys H ks vs → Vals vs us → NestedAll h ks us
  | [], [], us, _, r => by cases r; exact .nil
  | k :: ks, v :: vs, us, q, r => by
    unfold vkeys at q
    cases r with
    | cons r1 r2 => exact .cons (vkey_is ok q.1 r1) (vkeys_is ok q.2 r2)
  | [], _ :: _, _, q, _ => by unfold vkeys at q; exact q.elim
  | _ :: _, [], _, q, _ => by unfold vkeys at q; exact q.elim
end
end
/-! ### keys of data -/
mutual
def keyN : D → Option NestedKey
  | .int i => some (.num i)
  | .tup xs => (keysN xs).map .tup
  | .non => none
  | .bl _ => none
  | .str _ => none
  | .ref _ => none
  | .err _ _ => none
  | .ty _ => none
  | .cl _ => none
  | .scr _ => none
def keysN : List D → Option (List NestedKey)
  | [] => some []
  | x :: xs => (keyN x).bind fun k => (keysN xs).map fun ks => k :: ks
end
section
variable {G : Ctx} {ι : List Addr} {H : Hp} {st : Store}
mutual
theorem keyN_ok : ∀ {d : D} {v : V} {k : NestedKey}, RV G ι H d v → keyN d = some k → vkey H k v
  | .int i, v, k, r, e => by
    cases r
    unfold keyN at e
    cases e
    unfold vkey
    rfl
  | .tup xs, v, k, r, e => by
    unfold keyN at e
    obtain ⟨ks, e1, rfl⟩ := Option.map_eq_some_iff.mp e
    cases r with
    | @tup a _ vs ha hv =>
      unfold vkey
      exact ⟨a, vs, rfl, ha, keysN_ok hv e1⟩
  | .non, _, _, _, e => by unfold keyN at e; cases e
  | .bl _, _, _, _, e => by unfold keyN at e; cases e
  | .str _, _, _, _, e => by unfold keyN at e; cases e
  | .ref _, _, _, _, e => by unfold keyN at e; cases e
  | .err _ _, _, _, _, e => by unfold keyN at e; cases e
  | .ty _, _, _, _, e => by unfold keyN at e; cases e
  | .cl _, _, _, _, e => by unfold keyN at e; cases e
  | .scr _, _, _, _, e => by unfold keyN at e; cases e
theorem keysN_ok : ∀ {ds : List D} {vs : List V} {ks : List NestedKey}, RVs G ι H ds vs → keysN ds = some ks → vkeys H ks vs
  | [], _, ks, r, e => by
    cases r
    unfold keysN at e
    cases e
    unfold vkeys
    trivial
  | d :: ds, _, ks, r, e => by
    unfold keysN at e
    obtain ⟨k, e1, e2⟩ := Option.bind_eq_some_iff.mp e
    obtain ⟨ks, e3, rfl⟩ := Option.map_eq_some_iff.mp e2
    cases r with
    | cons r1 r2 =>
      unfold vkeys
      exact ⟨keyN_ok r1 e1, keysN_ok r2 e3⟩
end
def nkey : D → Option NestedKey
  | .tup ds => (keysN ds).bind fun ks => if (NestedKey.tup ks).depth ≤ 8 then some (.tup ks) else none
  | _ => none
theorem nkey_ok {d : D} {v : V} {k : NestedKey} (r : RV G ι H d v) (e : nkey d = some k) : ∃ b, v = .ref b ∧ vkey H k (.ref b) ∧ k.depth ≤ 8 := by
  unfold nkey at e
  split at e
  · rename_i ds
    obtain ⟨ks, e1, e2⟩ := Option.bind_eq_some_iff.mp e
    split at e2
    · rename_i hd
      cases e2
      have q : vkey H (.tup ks) v := keyN_ok r (by unfold keyN; rw [e1]; rfl)
      cases r with
      | @tup a _ vs ha hv => exact ⟨a, rfl, q, hd⟩
    · cases e2
  · cases e
/-! ### the dict -/
def DN (H : Hp) (a : Addr) (kvs : List (NestedKey × Int)) : Prop := kvs.length ≤ sizeLine ∧ (a == sysModules) = false ∧ ∃ o xs, H a = some (.ext fun h => h.get? a = some o) ∧ NOk o xs ∧ (∀ x ∈ xs, vkey H x.1 (.ref x.2.1) ∧ x.1.depth ≤ 8) ∧ NKV kvs xs
def valN (kvs : List (NestedKey × Int)) (k : NestedKey) : Option Int := (kvs.find? fun p => decide (p.1 = k)).map (·.2)
theorem NKV.val {k : NestedKey} : ∀ {kvs : List (NestedKey × Int)} {xs : List (NestedKey × Addr × Value)}, NKV kvs xs → (valN kvs k = none ∧ atKey xs k = none) ∨ ∃ i p, valN kvs k = some i ∧ atKey xs k = some p ∧ RelV (.int i) p.2
  | [], [], .nil => .inl ⟨rfl, rfl⟩
  | p :: kvs, x :: xs, .cons r t => by
    obtain ⟨e1, e2⟩ := r
    by_cases h : x.1 = k
    · refine .inr ⟨p.2, x.2, ?_, ?_, e2⟩
      · unfold valN
        rw [List.find?_cons_of_pos (by rw [e1]; exact decide_eq_true h)]
        rfl
      · simp [atKey, h]
    · have a1 : valN (p :: kvs) k = valN kvs k := by
        unfold valN
        rw [List.find?_cons_of_neg (by rw [e1]; simpa using h)]
      have a2 : atKey (x :: xs) k = atKey xs k := by
        simp [atKey, h]
      rw [a1, a2]
      exact NKV.val t
theorem NKV.snoc {k : NestedKey} {i : Int} {b : Addr} {u : Value} (r : RelV (.int i) u) : ∀ {kvs : List (NestedKey × Int)} {xs : List (NestedKey × Addr × Value)}, NKV kvs xs → NKV (kvs ++ [(k, i)]) (xs ++ [(k, b, u)])
  | [], [], .nil => .cons ⟨rfl, r⟩ .nil
  | _ :: _, _ :: _, .cons q t => .cons q (NKV.snoc r t)
section
variable {X : Cx} {pins : List (Addr × Obj)} {σ : L2.St} {s : Shared} {a b : Addr} {kvs : List (NestedKey × Int)} {k : NestedKey}
theorem dn_of (I : Inv X pins σ H s) (d : DN H a kvs) : kvs.length ≤ sizeLine ∧ (a == sysModules) = false ∧ ∃ o xs, H a = some (.ext fun h => h.get? a = some o) ∧ NKV kvs xs ∧ (∀ x ∈ xs, vkey H x.1 (.ref x.2.1) ∧ x.1.depth ≤ 8) ∧ s.heap.DictOfH (nestedKind X.prog X.w) a xs := by
  obtain ⟨z, hd, o, xs, h1, ⟨h2, es, ep, h3, h4, h5⟩, h6, h7⟩ := d
  have q : s.heap.get? a = some o := (show ObjOk X.prog X.w H s.heap a (.ext fun h => h.get? a = some o) from I.hok a _ h1).1
  exact ⟨z, hd, o, xs, h1, h7, h6, o, es, ep, q, h2, h3, h4 X.w, fun x hx => ⟨vkey_is I.hok (h6 x hx).1 rfl, (h6 x hx).2⟩, h5⟩
theorem nk_is (I : Inv X pins σ H s) (q : vkey H k (.ref b)) (hd : k.depth ≤ 8) : (nestedKind X.prog X.w).is s.heap k b := ⟨vkey_is I.hok q rfl, hd⟩
theorem nk_room {A : Around} (hu : A.units + 65 < cLine) : (nestedKind X.prog X.w).room A.in1 := by
  show A.units + 1 + 8 < cLine
  omega
end
def rInN (neg : Bool) : R2 := fun y x H Q => ∃ a kvs k b, x = .ref a ∧ y = .ref b ∧ DN H a kvs ∧ vkey H k (.ref b) ∧ k.depth ≤ 8 ∧ Q (.bl (if neg then !(valN kvs k).isSome else (valN kvs k).isSome)) H
theorem val_is {kvs : List (NestedKey × Int)} {xs : List (NestedKey × Addr × Value)} {k : NestedKey} (h : NKV kvs xs) : (atKey xs k).isSome = (valN kvs k).isSome := by
  rcases h.val (k := k) with ⟨a, b⟩ | ⟨i, p, a, b, _⟩ <;> rw [a, b] <;> rfl
theorem op_notInN {X : Cx} (hu : X.A.units + 65 < cLine) : OpR X (compareOp .NotIn) (rInN true) := by
  intro pins s σ H x y v u Q I rx ry h
  obtain ⟨a, kvs, k, b, rfl, rfl, hd, hk, h8, q⟩ := h
  cases (show v = Value.ref b from rx)
  cases (show u = Value.ref a from ry)
  obtain ⟨_, hs, o, xs, _, hn, _, dd⟩ := dn_of I hd
  refine wpAny_notIn_heap (nk_room hu) (nk_is I hk h8) hs dd ?_
  rw [val_is hn]
  exact ⟨.bl (!(valN kvs k).isSome), H, I.tok _, rfl, q⟩
def rIxN : R2 := fun x y H Q => ∃ a kvs k b i, x = .ref a ∧ y = .ref b ∧ DN H a kvs ∧ vkey H k (.ref b) ∧ k.depth ≤ 8 ∧ valN kvs k = some i ∧ Q (.int i) H
theorem ix_dictN {X : Cx} (hu : X.A.units + 65 < cLine) : IxR X rIxN := by
  intro value slice pins s σ H x y v u Q I rx ry h hs
  obtain ⟨a, kvs, k, b, i, rfl, rfl, hd, hk, h8, hv, q⟩ := h
  obtain rfl : v = Value.ref a := rx
  obtain rfl : u = Value.ref b := ry
  obtain ⟨_, _, o, xs, _, hn, _, dd⟩ := dn_of I hd
  have hT := dd.typeIs
  obtain ⟨i', p, e1, e2, e3⟩ : ∃ i p, valN kvs k = some i ∧ atKey xs k = some p ∧ RelV (.int i) p.2 := by
    rcases hn.val (k := k) with ⟨z, _⟩ | z
    · rw [hv] at z; cases z
    · exact z
  rw [hv] at e1
  cases e1
  unfold PyProof.Rows.subscriptTail
  refine wpAny_bind ?_
  rw [getitemInPython_of_ne hT.not_modules]
  refine wpAny_bind (wpAny_specialOf hT PySem.F.slot_dict_getitem.lookup ?_)
  have fin : wpAny (model X.prog X.w) X.A (subscripted slice false (.ref a) (.ref b)) (fun r s₃ => wpAny (model X.prog X.w) X.A (letTemporaryGo value (.ref a) r >>= fun _ => pure r) (EP X pins σ Q) X.xe s₃) X.xe s := by
    rw [hs]
    exact wpAny_operating (wpAny_getItem_heap (nk_room hu) (nk_is I hk h8) dd e2 (wpAny_bind (wpAny_letTemporaryGo (wpAny_pure ⟨.int i, H, I.tok _, e3, q⟩))))
  first
    | exact wpAny_pure (wpAny_bind fin)
    | exact wpAny_bind (wpAny_pure (wpAny_bind fin))
    | exact wpAny_bind fin
def rSetN : TSet := fun o i v H Q => ∃ a kvs k b j, o = .ref a ∧ i = .ref b ∧ v = .int j ∧ DN H a kvs ∧ vkey H k (.ref b) ∧ k.depth ≤ 8 ∧ kvs.length < sizeLine ∧ valN kvs k = none ∧ ∀ φ, DN (upd H a (.ext φ)) a (kvs ++ [(k, j)]) → Q (upd H a (.ext φ))
theorem set_dictN {X : Cx} (hu : X.A.units + 65 < cLine) : PSet X rSetN := by
  intro pins s σ H o i v ov iv u Q I ro ri rv h
  obtain ⟨a, kvs, k, b, j, rfl, rfl, rfl, hd, hk, h8, hz, hv, q⟩ := h
  cases (show ov = Value.ref a from ro)
  cases (show iv = Value.ref b from ri)
  obtain ⟨_, hs, o, xs, he, hn, hx, dd⟩ := dn_of I hd
  have hno : atKey xs k = none := by
    rcases hn.val (k := k) with ⟨_, z⟩ | ⟨i, p, z, _⟩
    · exact z
    · rw [hv] at z; cases z
  have hl : xs.length = kvs.length := (Paired.length hn).symm
  refine wpAny_setItem_heap (hsz := by omega) (nk_room hu) (nk_is I hk h8) dd fun h' dd' hs' => ?_
  rw [storedH_new hno] at dd'
  obtain ⟨o', es, ep, hq, h2, h3, h4, _, h5⟩ := dd'
  have ne : ∀ c xs, H c = some (.tup xs) → c ≠ a := fun c xs ec z => by
    rw [z, he] at ec
    cases ec
  have hx' : ∀ x ∈ xs ++ [(k, b, u)], vkey H x.1 (.ref x.2.1) ∧ x.1.depth ≤ 8 := fun x hm => by
    rcases List.mem_append.mp hm with hm | hm
    · exact hx x hm
    · rw [List.mem_singleton.mp hm]; exact ⟨hk, h8⟩
  refine ⟨upd H a (.ext fun h => h.get? a = some o'), d_write I (by rw [he]; exact True.intro) hs' ⟨o', hq⟩ ⟨hq, ⟨o', hq⟩, fun h1 h2 e1 e2 => e2 _ e1⟩, q _ ⟨by rw [List.length_append, List.length_singleton]; omega, hs, o', xs ++ [(k, b, u)], upd_same, ⟨h2, es, ep, h3, fun w => ?_, h5⟩, fun x hm => ⟨vkey_mono (fun c ys ec => by rw [upd_ne (ne c ys ec)]; exact ec) (hx' x hm).1, (hx' x hm).2⟩, hn.snoc rv⟩⟩
  rw [h4]
  refine List.map_congr_left fun x hm => ?_
  show (⟨x.1.hash X.w, .ref x.2.1, x.2.2⟩ : DictEntry) = ⟨x.1.hash w, .ref x.2.1, x.2.2⟩
  rw [hash_any X.w w (hx' x hm).1]
def rLenN : List V → Hp → VK → Prop := fun vs H Q => ∃ a kvs, vs = [.ref a] ∧ DN H a kvs ∧ Q (.int ((kvs.length : Nat) : Int)) H
theorem call_lenN {X : Cx} : CallR X (.builtin "len") rLenN := by
  intro pins s σ H xs us Q I r h
  obtain ⟨a, kvs, rfl, hd, q⟩ := h
  obtain rfl := Vals.ref1 r
  obtain ⟨hz, hs, o, xs, _, hn, _, dd⟩ := dn_of I hd
  have hl : (pairsH xs).length = kvs.length := by rw [pairsH_length]; exact (Paired.length hn).symm
  have hm : s.heap.DictKeyed (nestedKind X.prog X.w) a (pairsH xs) := ⟨xs, dd, rfl⟩
  refine call_len_slot (n := ((pairsH xs).length : Int)) hm.typeIs PySem.F.slot_dict_len (fun Q' hq => len_keyed hs hm hq) (by omega) (by rw [hl]; rw [sizeLine_eq] at hz; omega) ?_
  rw [hl]
  exact ⟨.int _, H, I.tok _, ⟨_, rfl⟩, q⟩
def tDNewN : TE := fun _ H Q => ∀ p φ, H p = none → DN (upd H p (.ext φ)) p [] → Q (.ref p) (upd H p (.ext φ))
theorem pe_dnewN {X : Cx} {pos : Pos} : PE X (.Dict [] [] pos) tDNewN := ⟨fun pins s σ H Q I h => by
  have hq : (s.heap.push { cls := .type "dict", data := .dict #[] }).get? s.heap.objs.size = some { cls := .type "dict", data := .dict #[] } := Heap.get?_push_size _ rfl
  exact wpAny_Dict_empty ⟨.ref s.heap.objs.size, _, I.laid (a := s.heap.objs.size) (o := .ext fun h => h.get? s.heap.objs.size = some { cls := .type "dict", data := .dict #[] }) (t' := s.toks) (fun _ _ q => Heap.get?_push_of_some _ q) (Nat.le_refl _) ⟨hq, ⟨_, hq⟩, fun h1 h2 e1 e2 => e2 _ e1⟩, rfl, h _ _ (I.hok.fresh (Nat.le_refl _)) ⟨Nat.zero_le _, beq_eq_false_iff_ne.mpr (Ne.symm (Nat.ne_of_lt I.big)), _, [], upd_same, ⟨⟨rfl, rfl, rfl⟩, #[], 0, rfl, fun _ => rfl, List.nodup_nil⟩, (fun x hx => nomatch hx), .nil⟩⟩⟩
/-! ### denotations -/
def dnAt (d : D) (st : Store) : Option (List (NestedKey × Int)) := match d with
  | .ref n => (match st[n]? with
    | some (.dN kvs) => some kvs
    | _ => none)
  | _ => none
theorem dnAt_ok {d : D} {v : V} {kvs : List (NestedKey × Int)} (rp : Rep G ι st H) (r : RV G ι H d v) (e : dnAt d st = some kvs) : ∃ n a, d = .ref n ∧ ι[n]? = some a ∧ st[n]? = some (.dN kvs) ∧ v = .ref a ∧ DN H a kvs := by
  unfold dnAt at e
  split at e
  · split at e
    · rename_i n _ kvs' e0
      cases e
      cases r with
      | @ref _ a hn => exact ⟨n, a, rfl, hn, e0, rfl, rp.cell _ _ a e0 hn⟩
    · cases e
  · cases e
def dNewN : DE := fun _ st => alloc (.dN []) st
theorem r_dnewN {X : Cx} {W : WX} {pos : Pos} : PE X (.Dict [] [] pos) (sE G W dNewN) := pe_dnewN.imp fun σ H Q ⟨ι, st, env, rp, re, q⟩ => fun p φ hp hd => ok_alloc (c := .dN []) rp hp hd q
def vInN (neg : Bool) (x y : D) (st : Store) : R D := match dnAt y st, nkey x with
  | some kvs, some k => .ok (.bl (if neg then !(valN kvs k).isSome else (valN kvs k).isSome)) st
  | _, _ => .bad
theorem f_inN (neg : Bool) : Fits2 G (rInN neg) (vInN neg) := by
  intro W ι st H σ x y v w Q rp rx ry q
  unfold vInN at q
  split at q
  · rename_i kvs k e1 e2
    obtain ⟨n, a, rfl, hn, e0, rfl, hd⟩ := dnAt_ok rp ry e1
    obtain ⟨b, rfl, hk, h8⟩ := nkey_ok rx e2
    exact ⟨a, kvs, k, b, rfl, rfl, hd, hk, h8, okR.ok q rp (.bl _)⟩
  · exact q.elim
def vIxN (x y : D) (st : Store) : R D := match dnAt x st, nkey y with
  | some kvs, some k => (match valN kvs k with
    | some i => .ok (.int i) st
    | none => .bad)
  | _, _ => .bad
theorem f_ixN : Fits2 G rIxN vIxN := by
  intro W ι st H σ x y v w Q rp rx ry q
  unfold vIxN at q
  split at q
  · rename_i kvs k e1 e2
    split at q
    · rename_i i ei
      obtain ⟨n, a, rfl, hn, e0, rfl, hd⟩ := dnAt_ok rp rx e1
      obtain ⟨b, rfl, hk, h8⟩ := nkey_ok ry e2
      exact ⟨a, kvs, k, b, i, rfl, rfl, hd, hk, h8, ei, okR.ok q rp (.int _)⟩
    · exact q.elim
  · exact q.elim
def bLenN (xs : List D) (st : Store) : R D := match xs with
  | [x] => (match dnAt x st with
    | some kvs => .ok (.int ((kvs.length : Nat) : Int)) st
    | none => .bad)
  | _ => .bad
theorem f_lenN : FitsL G rLenN bLenN := by
  intro W ι st H σ xs vs Q rp rx q
  unfold bLenN at q
  split at q
  · cases rx with
    | cons r1 r2 =>
    cases r2
    split at q
    · rename_i kvs e
      obtain ⟨n, a, rfl, hn, e0, rfl, hd⟩ := dnAt_ok rp r1 e
      exact ⟨a, kvs, rfl, hd, okR.ok q rp (.int _)⟩
    · exact q.elim
  · exact q.elim
def vSetN (o i x : D) (st : Store) : R Unit := match o, x with
  | .ref n, .int j => (match dnAt (.ref n) st, nkey i with
    | some kvs, some k => if kvs.length < sizeLine ∧ valN kvs k = none then .ok () (st.set n (.dN (kvs ++ [(k, j)]))) else .bad
    | _, _ => .bad)
  | _, _ => .bad
theorem f_setN {W : WX} {σ : L2.St} {o i x : D} {ov iv v : V} {Q : Hp → Prop} (rp : Rep G ι st H) (ro : RV G ι H o ov) (ri : RV G ι H i iv) (rx : RV G ι H x v) (q : okR G W ι H σ relU (fun _ => Q) (vSetN o i x st)) : rSetN ov iv v H Q := by
  unfold vSetN at q
  split at q
  · split at q
    · rename_i n j _ _ kvs k e1 e2
      split at q
      · rename_i hc
        obtain ⟨n', a, e, hn, e0, rfl, hd⟩ := dnAt_ok rp ro e1
        cases e
        obtain ⟨b, rfl, hk, h8⟩ := nkey_ok ri e2
        cases rx
        obtain ⟨o', _, he⟩ : ∃ o' xs, H a = some (.ext fun h => h.get? a = some o') := by
          obtain ⟨_, _, o', xs, he, _⟩ := hd
          exact ⟨o', xs, he⟩
        exact ⟨a, kvs, k, b, j, rfl, rfl, rfl, hd, hk, h8, hc.1, hc.2, fun φ hd' => q ι _ () (Ext.write hn he rfl) (rp.write hn he rfl hd') trivial⟩
      · exact q.elim
    · exact q.elim
  · exact q.elim
def gSbN (mo mi : DE) : DG := fun d env st => (mo env st).bind fun o st1 => (mi env st1).bind fun i st2 => (vSetN o i d st2).bind fun _ st3 => .ok env st3
theorem t_subN {X : Cx} {W : WX} {pos : Pos} {o i : Expr} {mo mi : DE} (hu : X.A.units + 65 < cLine) (ho : PE X o (sE G W mo)) (hi : PE X i (sE G W mi))
    (ha : ∀ v, assign (.Subscript o i pos) X.env v = (do
      let ov ← holding [v] (eval o X.env)
      let iv ← holding [v, ov] (eval i X.env)
      standAt pos
      holding [v, ov, iv] (setItem ov iv v)
      release [v, ov, iv] []) := by intro _; rfl) : PG X (.Subscript o i pos) (sG G [] (gSbN mo mi)) := (pg_sub ho hi (set_dictN hu) ha).imp fun v σ H Q ⟨ι, st, env, d, rp, re, rv, q⟩ => by
  unfold gSbN at q
  refine ⟨ι, st, env, rp, re, ?_⟩
  cases h1 : mo env st with
  | ok o st1 =>
    rw [h1] at q
    intro ι1 H1 ov e1 rp1 ro
    refine ⟨ι1, st1, env, rp1, re.mono e1, ?_⟩
    rw [R.bind_ok] at q
    cases h2 : mi env st1 with
    | ok i st2 =>
      rw [h2] at q
      intro ι2 H2 iv e2 rp2 ri
      rw [R.bind_ok] at q
      refine f_setN (W := W) (σ := σ) (x := d) rp2 (ro.mono e2) ri ((rv.mono e1).mono e2) ?_
      cases h3 : vSetN o i d st2 with
      | ok u st3 =>
        rw [h3] at q
        intro ι3 H3 _ e3 rp3 _
        exact q ι3 H3 σ ((e1.trans e2).trans e3) rp3 (((re.mono e1).mono e2).mono e3) rfl fun _ _ => rfl
      | exc x st3 => rw [h3] at q; exact q.elim
      | bad => rw [h3] at q; exact q.elim
    | exc x st3 => rw [h2] at q; exact q.elim
    | bad => rw [h2] at q; exact q.elim
  | exc x st3 => rw [h1] at q; exact q.elim
  | bad => rw [h1] at q; exact q.elim
end
end Dn
set_option Elab.async false
set_option linter.all false
set_option maxRecDepth 100000
set_option maxHeartbeats 4000000
set_option Elab.async false
set_option linter.all false
set_option maxRecDepth 100000
set_option maxHeartbeats 1000000
namespace K09
open PySem PySem.Spec L2 Dn
def c_GateError : Dx.ClsD := ⟨"GateError", [0], false⟩
def c_NoGate : Dx.ClsD := ⟨"NoGate", [1, 0], false⟩
def c_NoHall : Dx.ClsD := ⟨"NoHall", [2, 0], false⟩
def c_NoShowing : Dx.ClsD := ⟨"NoShowing", [3, 0], false⟩
def c_NoText : Dx.ClsD := ⟨"NoText", [4, 0], false⟩
def c_Far : Dx.ClsD := ⟨"Far", [5, 0], false⟩
def c_Wide : Dx.ClsD := ⟨"Wide", [6, 0], false⟩
def c_NoTurn : Dx.ClsD := ⟨"NoTurn", [7, 0], false⟩
def c_Broken : Dx.ClsD := ⟨"Broken", [8, 0], false⟩
def c_NoRow : Dx.ClsD := ⟨"NoRow", [9, 0], false⟩
def ct : List Dx.ClsD := [c_GateError, c_NoGate, c_NoHall, c_NoShowing, c_NoText, c_Far, c_Wide, c_NoTurn, c_Broken, c_NoRow]
/-! is_whole: 0 thing -/
/-! is_pair: 0 thing -/
/-! has_form: 0 thing, 1 row, 2 pair -/
/-! look_gate: 0 gate, 1 met, 2 k, 3 side, 4 mark, 5 row, 6 pair -/
/-! number_of: 0 word, 1 sign -/
/-! pair_of: 0 word, 1 numbers, 2 part -/
/-! table_of: 0 text, 1 rows, 2 row, 3 word -/
/-! read_gate: 0 text, 1 found -/
/-! _law_box: 0 _law_script, 1 _law_k, 2 _law_cell, 3 _law_seed -/
/-! _law_take: 0 _law_box_here, 1 _law_many, 2 _law_digit, 3 _law_one -/
/-! _law_alike: 0 _law_found, 1 _law_due_here, 2 _law_left, 3 _law_one, 4 _law_other -/
/-! _law_any_gate: 0 _law_box_here, 1 _law_sides, 2 _law_marks, 3 _law_left, 4 _law_found, 5 _law_mark, 6 _law_side -/
/-! _law_even_gate: 0 _law_box_here, 1 _law_sides, 2 _law_marks, 3 _law_on, 4 _law_more, 5 _law_alone, 6 _law_found, 7 _law_mark, 8 _law_row, 9 _law_side, 10 _law_shown -/
/-! _law_gate: 0 _law_box_here, 1 _law_sides, 2 _law_marks -/
/-! _law_text: 0 _law_gate_here, 1 _law_rows, 2 _law_row, 3 _law_side, 4 _law_mark -/
/-! _law_number: 0 _law_word_here, 1 _law_sign -/
noncomputable def den__law_number : DS := (dSeq (dIf (dTOr (dTNot (dTest (dChain vLe vLe (dC (.int 1)) (dCall bLen (aCons (dVar 0) aNil)) (dC (.int 6))))) (dTest (dBin vNe (dLc (iVal (dVar 0)) (gNm 1) (dTest (dBin (vIn true) (dVar 1) (dC (.str "0123456789")))) (dVar 1) [1]) (dLst aNil)))) (dRet (dC .non)) dNext) (dRet (dBin vIx (dLst (aCons (dCall bIntB (aCons (dVar 0) aNil)) (aCons (dC .non) aNil))) (dCall bIntB (aCons (dBin vNe (dVar 0) (dCall bStr (aCons (dCall bIntB (aCons (dVar 0) aNil)) aNil))) aNil)))))
/-! _law_table: 0 _law_text_here, 1 _law_rows, 2 _law_part, 3 _law_row, 4 _law_word_here, 5 _law_numbers, 6 _law_one -/
noncomputable def den__law_table (m__law_number : DF) : DS := (dSeq (dAsg (dLst aNil) (gNm 1)) (dSeq (dFor (iVal (dMeth "str" mSplit (dVar 0) (aCons (dC (.str " / ")) aNil))) (gNm 2) (dSeq (dAsg (dLst aNil) (gNm 3)) (dSeq (dFor (iVal (dMeth "str" mSplit (dVar 2) (aCons (dC (.str " ")) aNil))) (gNm 4) (dSeq (dAsg (dLc (iVal (dMeth "str" mSplit (dVar 4) (aCons (dC (.str ".")) aNil))) (gNm 6) dYes (dCall m__law_number (aCons (dVar 6) aNil)) [6]) (gNm 5)) (dSeq (dIf (dTOr (dTest (dBin vNe (dCall bLen (aCons (dVar 5) aNil)) (dC (.int 2)))) (dTest (dBin (vIn false) (dC .non) (dVar 5)))) (dRet (dC .non)) dNext) (dDrop (dMeth "list" mAppend (dVar 3) (aCons (dTup (aCons (dBin vIx (dVar 5) (dC (.int 0))) (aCons (dBin vIx (dVar 5) (dC (.int 1))) aNil))) aNil)))))) (dDrop (dMeth "list" mAppend (dVar 1) (aCons (dVar 3) aNil)))))) (dRet (dVar 1))))
/-! _law_due: 0 _law_text_here, 1 _law_rows, 2 _law_pairs, 3 _law_row, 4 _law_k, 5 _law_side, 6 _law_mark, 7 _law_word_here -/
noncomputable def den__law_due (m__law_table : DF) : DS := (dSeq (dAsg (dTup (aCons (dCall m__law_table (aCons (dVar 0) aNil)) (aCons (dLst aNil) aNil))) (gTp 2 (gsCons (gNm 1) (gsCons (gNm 2) gsNil)))) (dSeq (dIf (dTest (dBin vIs (dVar 1) (dC .non))) (dRet (dTup (aCons (dC (.str "text")) (aCons (dC (.int 0)) aNil)))) dNext) (dSeq (dIf (dTest (dBin vNe (dLc (iVal (dVar 1)) (gNm 3) (dTest (dBin vNe (dCall bLen (aCons (dVar 3) aNil)) (dCall bLen (aCons (dBin vIx (dVar 1) (dC (.int 0))) aNil)))) (dVar 3) [3]) (dLst aNil))) (dRet (dTup (aCons (dC (.str "gate")) (aCons (dC (.str "form")) (aCons (dC (.int 0)) aNil))))) dNext) (dSeq (dFor (iVal (dVar 1)) (gNm 3) (dDrop (dMeth "list" mExtend (dVar 2) (aCons (dVar 3) aNil)))) (dSeq (dFor (iEnumD (aCons (dVar 2) aNil)) (gTp 2 (gsCons (gNm 4) (gsCons (gTp 2 (gsCons (gNm 5) (gsCons (gNm 6) gsNil))) gsNil))) (dSeq (dAsg (dBin vIx (dLst (aCons (dC (.str "side")) (aCons (dBin vIx (dLst (aCons (dC (.str "mark")) (aCons (dC (.str "twice")) aNil))) (dCall bInt (aCons (dBin vLt (dVar 6) (dCall bLen (aCons (dVar 1) aNil))) aNil))) aNil))) (dCall bInt (aCons (dBin vLt (dVar 5) (dCall bLen (aCons (dBin vIx (dVar 1) (dC (.int 0))) aNil))) aNil))) (gNm 7)) (dIf (dTOr (dTest (dBin vNe (dVar 7) (dC (.str "twice")))) (dTest (dBin (vIn false) (dTup (aCons (dVar 5) (aCons (dVar 6) aNil))) (dSl (dVar 2) dNoPart (dPart (dVar 4)))))) (dRet (dTup (aCons (dC (.str "gate")) (aCons (dVar 7) (aCons (dVar 4) aNil))))) dNext))) (dRet (dTup (aCons (dC (.str "told")) (aCons (dCall bTuple (aCons (dLc (iVal (dVar 1)) (gNm 3) dYes (dCall bTuple (aCons (dVar 3) aNil)) [3]) aNil)) aNil)))))))))
/-! _law_told: 0 _law_text_here, 1 _law_found, 2 e, 3 _law_strange -/
/-! _law_word: 0 _law_box_here, 1 _law_some -/
/-! _law_spoilt: 0 _law_box_here, 1 _law_text_here, 2 _law_words, 3 _law_form, 4 _law_at, 5 _law_other, 6 _law_spot, 7 _law_sign -/
/-! law: 0 _law_script, 1 _law_k, 2 _law_box_here, 3 _law_good, 4 _law_turn, 5 _law_text_here, 6 _law_more, 7 _law_one -/
end K09
set_option Elab.async false
set_option linter.all false
set_option maxRecDepth 100000
set_option maxHeartbeats 4000000
namespace K42
open PySem PySem.Spec L2 Dn
/-! numbered: 0 things, 1 numbers, 2 found, 3 thing -/
def den_numbered : DS := (dSeq (dAsg dNewN (gNm 1)) (dSeq (dAsg (dLst aNil) (gNm 2)) (dSeq (dFor (iVal (dVar 0)) (gNm 3) (dSeq (dIf (dTest (dBin (vInN true) (dVar 3) (dVar 1))) (dAsg (dCall bLenN (aCons (dVar 1) aNil)) (gSbN (dVar 1) (dVar 3))) dNext) (dDrop (dMeth "list" mAppend (dVar 2) (aCons (dBin vIxN (dVar 1) (dVar 3)) aNil))))) (dRet (dVar 2)))))
/-! parted_marks: 0 gate, 1 led, 2 many, 3 rows, 4 row, 5 side, 6 mark -/
def den_parted_marks (m_numbered : DF) : DS := (dSeq (dAsg (dCall m_numbered (aCons (dLc (iVal (dVar 0)) (gNm 4) dYes (dCall bTuple (aCons (dLc (iVal (dVar 4)) (gTp 2 (gsCons (gNm 5) (gsCons (gNm 6) gsNil))) dYes (dVar 5) [5, 6]) aNil)) [4]) aNil)) (gNm 1)) (dSeq (dAsg (dC (.int 0)) (gNm 2)) (dSeq (dWhile (dTest (dBin vLt (dVar 2) (dBin vAdd (dCall bMaxL (aCons (dVar 1) aNil)) (dC (.int 1))))) (dSeq (dAsg (dBin vAdd (dCall bMaxL (aCons (dVar 1) aNil)) (dC (.int 1))) (gNm 2)) (dSeq (dAsg (dLc (iVal (dVar 0)) (gNm 4) dYes (dCall bTuple (aCons (dLc (iVal (dVar 4)) (gTp 2 (gsCons (gNm 5) (gsCons (gNm 6) gsNil))) dYes (dBin vIx (dVar 1) (dVar 6)) [5, 6]) aNil)) [4]) (gNm 3)) (dAsg (dCall m_numbered (aCons (dLc (iEnumD (aCons (dVar 3) aNil)) (gTp 2 (gsCons (gNm 6) (gsCons (gNm 4) gsNil))) dYes (dTup (aCons (dBin vIx (dVar 1) (dVar 6)) (aCons (dVar 4) aNil))) [6, 4]) aNil)) (gNm 1))))) (dRet (dVar 1)))))
/-! least_gate: 0 gate, 1 led, 2 rows, 3 k, 4 row, 5 side, 6 mark -/
def den_least_gate (m_parted_marks : DF) : DS := (dSeq (dAsg (dCall m_parted_marks (aCons (dVar 0) aNil)) (gNm 1)) (dSeq (dAsg (dLc (iRange1 (aCons (dBin vAdd (dCall bMaxL (aCons (dVar 1) aNil)) (dC (.int 1))) aNil)) (gNm 3) dYes (dBin vIx (dVar 0) (dMeth "list" mIndex (dVar 1) (aCons (dVar 3) aNil))) [3]) (gNm 2)) (dRet (dTup (aCons (dCall bTuple (aCons (dLc (iVal (dVar 2)) (gNm 4) dYes (dCall bTuple (aCons (dLc (iVal (dVar 4)) (gTp 2 (gsCons (gNm 5) (gsCons (gNm 6) gsNil))) dYes (dTup (aCons (dVar 5) (aCons (dBin vIx (dVar 1) (dVar 6)) aNil))) [5, 6]) aNil)) [4]) aNil)) (aCons (dCall bTuple (aCons (dVar 1) aNil)) aNil))))))
/-! _law_feed: 0 _law_script, 1 _law_k, 2 _law_cell, 3 _law_seed -/
def den__law_feed : DS := (dSeq (dAsg (dBin vAdd (dBin vMul (dC (.int 9011)) (dVar 1)) (dC (.int 17))) (gNm 2)) (dSeq (dIf (dTest (dBin vLt (dVar 1) (dCall bLen (aCons (dVar 0) aNil)))) (dAsg (dCall bAbs (aCons (dBin vIx (dVar 0) (dVar 1)) aNil)) (gNm 2)) (dIf (dTest (dBin vGt (dCall bLen (aCons (dVar 0) aNil)) (dC (.int 0)))) (dAsg (dBin vAdd (dVar 2) (dBin vMul (dBin vMod (dBin vIx (dVar 0) (dBin vMod (dVar 1) (dCall bLen (aCons (dVar 0) aNil)))) (dC (.int 2147483629))) (dC (.int 69623)))) (gNm 2)) dNext)) (dSeq (dAsg (dBin vAdd (dBin vMod (dBin vAdd (dBin vAdd (dBin vMul (dBin vMod (dVar 2) (dC (.int 2147483629))) (dC (.int 48271))) (dBin vMul (dC (.int 40692)) (dVar 1))) (dC (.int 7))) (dC (.int 2147483629))) (dC (.int 1))) (gNm 3)) (dRet (dLst (aCons (dBin vIx (dLst (aCons (dC (.int 0)) (aCons (dVar 2) aNil))) (dCall bInt (aCons (dBin vGe (dVar 2) (dBin vPow (dC (.int 10)) (dC (.int 18)))) aNil))) (aCons (dVar 3) (aCons (dC (.int 0)) aNil))))))))
/-! _law_draw: 0 _law_feed_here, 1 _law_many, 2 _law_digit, 3 _law_one -/
def den__law_draw : DS := (dSeq (dIf (dTest (dBin vGt (dBin vIx (dVar 0) (dC (.int 0))) (dC (.int 0)))) (dSeq (dAsg (dBin vMod (dBin vIx (dVar 0) (dC (.int 0))) (dVar 1)) (gNm 2)) (dSeq (dAsg (dBin vDiv (dBin vIx (dVar 0) (dC (.int 0))) (dVar 1)) (gSb (dVar 0) (dC (.int 0)))) (dRet (dVar 2)))) dNext) (dSeq (dAsg (dBin vAdd (dBin vIx (dVar 0) (dC (.int 2))) (dC (.int 1))) (gSb (dVar 0) (dC (.int 2)))) (dSeq (dAsg (dBin vMod (dBin vMul (dBin vAdd (dBin vIx (dVar 0) (dC (.int 1))) (dBin vMul (dC (.int 104729)) (dBin vIx (dVar 0) (dC (.int 2))))) (dC (.int 69623))) (dC (.int 2147483647))) (gNm 3)) (dSeq (dAsg (dBin vAdd (dBin vMod (dBin vAdd (dBin vMul (dVar 3) (dC (.int 48271))) (dC (.int 30103))) (dC (.int 2147483629))) (dC (.int 1))) (gSb (dVar 0) (dC (.int 1)))) (dRet (dBin vMod (dBin vDiv (dBin vAdd (dBin vMul (dVar 3) (dC (.int 2147483647))) (dBin vIx (dVar 0) (dC (.int 1)))) (dC (.int 8191))) (dVar 1)))))))
/-! _law_mixed: 0 _law_feed_here, 1 _law_some, 2 _law_left, 3 _law_found -/
def den__law_mixed (m__law_draw : DF) : DS := (dSeq (dPar [2, 3] (aCons (dCall bList (aCons (dVar 1) aNil)) (aCons (dLst aNil) aNil))) (dSeq (dWhile (dTest (dBin vNe (dVar 2) (dLst aNil))) (dDrop (dMeth "list" mAppend (dVar 3) (aCons (dMeth "list" mPopAt (dVar 2) (aCons (dCall m__law_draw (aCons (dVar 0) (aCons (dCall bLen (aCons (dVar 2) aNil)) aNil))) aNil)) aNil)))) (dRet (dVar 3))))
/-! _law_gate: 0 _law_feed_here, 1 _law_sides, 2 _law_marks, 3 _law_form, 4 _law_numbers, 5 _law_pairs, 6 _law_mark, 7 _law_led, 8 _law_outs, 9 _law_rows, 10 _law_turns, 11 _law_goal, 12 _law_k, 13 _law_side, 14 _law_out -/
def den__law_gate (m__law_draw m__law_mixed : DF) : DS := (dSeq (dPar [3, 4] (aCons (dCall m__law_draw (aCons (dVar 0) (aCons (dC (.int 5)) aNil))) (aCons (dListRg (dVar 1)) aNil))) (dSeq (dIf (dTest (dBin vLt (dVar 3) (dC (.int 2)))) (dSeq (dAsg (dCall m__law_mixed (aCons (dVar 0) (aCons (dLc (iRange1 (aCons (dBin vMul (dVar 1) (dVar 2)) aNil)) (gNm 12) dYes (dTup (aCons (dBin vMod (dVar 12) (dVar 1)) (aCons (dBin vDiv (dVar 12) (dVar 1)) aNil))) [12]) aNil))) (gNm 5)) (dRet (dCall bTuple (aCons (dLc (iRange1 (aCons (dVar 2) aNil)) (gNm 6) dYes (dCall bTuple (aCons (dSl (dVar 5) (dPart (dBin vMul (dVar 1) (dVar 6))) (dPart (dBin vAdd (dBin vMul (dVar 1) (dVar 6)) (dVar 1)))) aNil)) [6]) aNil)))) dNext) (dSeq (dAsg (dTup (aCons (dCall m__law_mixed (aCons (dVar 0) (aCons (dListRg (dVar 2)) aNil))) (aCons (dCall m__law_mixed (aCons (dVar 0) (aCons (dVar 4) aNil))) (aCons (dLst aNil) aNil)))) (gTp 3 (gsCons (gNm 7) (gsCons (gNm 8) (gsCons (gNm 9) gsNil))))) (dSeq (dAsg (dLc (iVal (dVar 4)) (gNm 13) dYes (dCall m__law_mixed (aCons (dVar 0) (aCons (dListRg (dVar 2)) aNil))) [13]) (gNm 10)) (dSeq (dFor (iRange1 (aCons (dVar 2) aNil)) (gNm 6) (dIf (dTest (dBin vEq (dVar 3) (dC (.int 3)))) (dDrop (dMeth "list" mAppend (dVar 9) (aCons (dCall bTuple (aCons (dLc (iVal (dVar 4)) (gNm 13) dYes (dTup (aCons (dBin vIx (dVar 8) (dVar 13)) (aCons (dBin vIx (dBin vIx (dVar 10) (dVar 13)) (dVar 6)) aNil))) [13]) aNil)) aNil))) (dSeq (dAsg (dBin vIx (dLst (aCons (dVar 6) (aCons (dBin vIx (dVar 7) (dVar 6)) aNil))) (dCall bInt (aCons (dBin vEq (dVar 3) (dC (.int 4))) aNil))) (gNm 11)) (dDrop (dMeth "list" mAppend (dVar 9) (aCons (dCall bTuple (aCons (dLc (iVal (dCall m__law_mixed (aCons (dVar 0) (aCons (dVar 4) aNil)))) (gNm 14) dYes (dTup (aCons (dVar 14) (aCons (dVar 11) aNil))) [14]) aNil)) aNil)))))) (dRet (dCall bTuple (aCons (dVar 9) aNil))))))))
/-! _law_alike: 0 _law_told, 1 _law_due_here, 2 _law_left, 3 _law_one, 4 _law_other -/
def den__law_alike : DS := (dSeq (dAsg (dLst (aCons (dTup (aCons (dVar 0) (aCons (dVar 1) aNil))) aNil)) (gNm 2)) (dSeq (dWhile (dTest (dBin vNe (dVar 2) (dLst aNil))) (dSeq (dAsg (dMeth "list" mPop (dVar 2) aNil) (gTp 2 (gsCons (gNm 3) (gsCons (gNm 4) gsNil)))) (dSeq (dIf (dTOr (dTest (dBin vNe (dCall bIsi (aCons (dVar 3) (aCons (dC (.ty "tuple")) aNil))) (dCall bIsi (aCons (dVar 4) (aCons (dC (.ty "tuple")) aNil))))) (dTest (dBin vNe (dCall bIsi (aCons (dVar 3) (aCons (dC (.ty "list")) aNil))) (dCall bIsi (aCons (dVar 4) (aCons (dC (.ty "list")) aNil)))))) (dRet (dC (.bl false))) dNext) (dSeq (dIf (dTOr (dTest (dBin vNe (dCall bIsi (aCons (dVar 3) (aCons (dC (.ty "bool")) aNil))) (dCall bIsi (aCons (dVar 4) (aCons (dC (.ty "bool")) aNil))))) (dTest (dBin vNe (dCall bIsi (aCons (dVar 3) (aCons (dC (.ty "str")) aNil))) (dCall bIsi (aCons (dVar 4) (aCons (dC (.ty "str")) aNil)))))) (dRet (dC (.bl false))) dNext) (dIf (dTest (dCall bIsi (aCons (dVar 4) (aCons (dTup (aCons (dC (.ty "tuple")) (aCons (dC (.ty "list")) aNil))) aNil)))) (dSeq (dIf (dTest (dBin vNe (dCall bLen (aCons (dVar 3) aNil)) (dCall bLen (aCons (dVar 4) aNil)))) (dRet (dC (.bl false))) dNext) (dDrop (dMeth "list" mExtend (dVar 2) (aCons (dListZip (aCons (dVar 3) (aCons (dVar 4) aNil))) aNil)))) (dIf (dTOr (dTest (dBin vNe (dVar 3) (dVar 4))) (dTest (dBin vNe (dCall bIsi (aCons (dVar 3) (aCons (dC (.ty "int")) aNil))) (dCall bIsi (aCons (dVar 4) (aCons (dC (.ty "int")) aNil)))))) (dRet (dC (.bl false))) dNext)))))) (dRet (dC (.bl true)))))
/-! _law_twinned: 0 _law_feed_here, 1 _law_sides, 2 _law_few, 3 _law_times, 4 _law_base, 5 _law_names, 6 _law_rows, 7 _law_mark, 8 _law_side, 9 _law_swaps, 10 _law_n, 11 _law_row, 12 _law_pair -/
def den__law_twinned (m__law_draw m__law_mixed m__law_gate : DF) : DS := (dSeq (dAsg (dBin vAdd (dC (.int 1)) (dCall m__law_draw (aCons (dVar 0) (aCons (dC (.int 3)) aNil)))) (gNm 2)) (dSeq (dAsg (dBin vAdd (dC (.int 1)) (dCall m__law_draw (aCons (dVar 0) (aCons (dBin vDiv (dC (.int 8)) (dVar 2)) aNil)))) (gNm 3)) (dSeq (dPar [4, 5] (aCons (dCall m__law_gate (aCons (dVar 0) (aCons (dVar 1) (aCons (dVar 2) aNil)))) (aCons (dCall m__law_mixed (aCons (dVar 0) (aCons (dListRg (dBin vMul (dVar 2) (dVar 3))) aNil))) aNil))) (dSeq (dAsg (dBin vMul (dLst (aCons (dTup aNil) aNil)) (dBin vMul (dVar 2) (dVar 3))) (gNm 6)) (dSeq (dFor (iRange1 (aCons (dVar 2) aNil)) (gNm 7) (dSeq (dAsg (dLc (iRange1 (aCons (dVar 1) aNil)) (gNm 8) dYes (dCall m__law_mixed (aCons (dVar 0) (aCons (dListRg (dVar 3)) aNil))) [8]) (gNm 9)) (dFor (iRange1 (aCons (dVar 3) aNil)) (gNm 10) (dSeq (dAsg (dLst aNil) (gNm 11)) (dSeq (dFor (iEnumD (aCons (dBin vIx (dVar 4) (dVar 7)) aNil)) (gTp 2 (gsCons (gNm 8) (gsCons (gNm 12) gsNil))) (dDrop (dMeth "list" mAppend (dVar 11) (aCons (dTup (aCons (dBin vIx (dVar 12) (dC (.int 0))) (aCons (dBin vIx (dVar 5) (dBin vAdd (dBin vMul (dVar 3) (dBin vIx (dVar 12) (dC (.int 1)))) (dBin vIx (dBin vIx (dVar 9) (dVar 8)) (dVar 10)))) aNil))) aNil)))) (dAsg (dCall bTuple (aCons (dVar 11) aNil)) (gSb (dVar 6) (dBin vIx (dVar 5) (dBin vAdd (dBin vMul (dVar 3) (dVar 7)) (dVar 10)))))))))) (dRet (dCall bTuple (aCons (dVar 6) aNil))))))))
/-! _law_street: 0 _law_one, 1 _law_mark, 2 _law_other, 3 _law_its, 4 _law_found, 5 _law_now, 6 _law_many, 7 _law_later, 8 _law_mine, 9 _law_there, 10 _law_mine_pair, 11 _law_its_pair, 12 _law_pair -/
def den__law_street : DS := (dSeq (dPar [4, 5, 6] (aCons (dDispT (dTup (aCons (dVar 1) (aCons (dVar 3) aNil))) (dC (.bl true))) (aCons (dLst (aCons (dTup (aCons (dVar 1) (aCons (dVar 3) aNil))) aNil)) (aCons (dC (.int 0)) aNil)))) (dSeq (dWhile (dTest (dBin vNe (dVar 5) (dLst aNil))) (dSeq (dPar [7, 6] (aCons (dLst aNil) (aCons (dBin vAdd (dVar 6) (dC (.int 1))) aNil))) (dSeq (dFor (iVal (dVar 5)) (gTp 2 (gsCons (gNm 8) (gsCons (gNm 9) gsNil))) (dFor (iZipD (aCons (dBin vIx (dVar 0) (dVar 8)) (aCons (dBin vIx (dVar 2) (dVar 9)) aNil))) (gTp 2 (gsCons (gNm 10) (gsCons (gNm 11) gsNil))) (dSeq (dIf (dTest (dBin vNe (dBin vIx (dVar 10) (dC (.int 0))) (dBin vIx (dVar 11) (dC (.int 0))))) (dRet (dTup (aCons (dC (.str "parted")) (aCons (dVar 6) aNil)))) dNext) (dSeq (dAsg (dTup (aCons (dBin vIx (dVar 10) (dC (.int 1))) (aCons (dBin vIx (dVar 11) (dC (.int 1))) aNil))) (gNm 12)) (dIf (dTest (dBin (vIn true) (dVar 12) (dVar 4))) (dSeq (dAsg (dC (.bl true)) (gSb (dVar 4) (dVar 12))) (dDrop (dMeth "list" mAppend (dVar 7) (aCons (dVar 12) aNil)))) dNext))))) (dAsg (dVar 7) (gNm 5))))) (dRet (dTup (aCons (dC (.str "alike")) (aCons (dCall bTuple (aCons (dCall bSorted (aCons (dCall bListT (aCons (dVar 4) aNil)) aNil)) aNil)) aNil))))))
/-! _law_renumbered: 0 _law_feed_here, 1 _law_gate_here, 2 _law_names, 3 _law_rows, 4 _law_mark, 5 _law_row, 6 _law_pair -/
def den__law_renumbered (m__law_mixed : DF) : DS := (dSeq (dAsg (dCall m__law_mixed (aCons (dVar 0) (aCons (dListRg (dCall bLen (aCons (dVar 1) aNil))) aNil))) (gNm 2)) (dSeq (dAsg (dBin vMul (dLst (aCons (dTup aNil) aNil)) (dCall bLen (aCons (dVar 1) aNil))) (gNm 3)) (dSeq (dFor (iEnumD (aCons (dVar 1) aNil)) (gTp 2 (gsCons (gNm 4) (gsCons (gNm 5) gsNil))) (dAsg (dCall bTuple (aCons (dLc (iVal (dVar 5)) (gNm 6) dYes (dTup (aCons (dBin vIx (dVar 6) (dC (.int 0))) (aCons (dBin vIx (dVar 2) (dBin vIx (dVar 6) (dC (.int 1)))) aNil))) [6]) aNil)) (gSb (dVar 3) (dBin vIx (dVar 2) (dVar 4))))) (dRet (dCall bTuple (aCons (dVar 3) aNil))))))
/-! _law_ringed: 0 _law_feed_here, 1 _law_sides, 2 _law_marks, 3 _law_rows, 4 _law_straight, 5 _law_mark, 6 _law_outs, 7 _law_out -/
def den__law_ringed (m__law_draw m__law_renumbered : DF) : DS := (dSeq (dAsg (dTup (aCons (dBin vAdd (dC (.int 2)) (dCall m__law_draw (aCons (dVar 0) (aCons (dC (.int 7)) aNil)))) (aCons (dLst aNil) aNil))) (gTp 2 (gsCons (gNm 2) (gsCons (gNm 3) gsNil)))) (dSeq (dAsg (dListRg (dVar 1)) (gNm 4)) (dSeq (dFor (iRange1 (aCons (dVar 2) aNil)) (gNm 5) (dSeq (dAsg (dBin vIx (dLst (aCons (dVar 4) (aCons (dBin vAdd (dBin vAdd (dSl (dVar 4) (dPart (dUn vNeg (dC (.int 1)))) dNoPart) (dSl (dVar 4) (dPart (dC (.int 1))) (dPart (dUn vNeg (dC (.int 1)))))) (dBin vMul (dSl (dVar 4) dNoPart (dPart (dC (.int 1)))) (dCall bInt (aCons (dBin vGt (dVar 1) (dC (.int 1))) aNil)))) aNil))) (dCall bInt (aCons (dBin vEq (dVar 5) (dC (.int 0))) aNil))) (gNm 6)) (dDrop (dMeth "list" mAppend (dVar 3) (aCons (dCall bTuple (aCons (dLc (iVal (dVar 6)) (gNm 7) dYes (dTup (aCons (dVar 7) (aCons (dBin vMod (dBin vAdd (dVar 5) (dC (.int 1))) (dVar 2)) aNil))) [7]) aNil)) aNil))))) (dRet (dCall m__law_renumbered (aCons (dVar 0) (aCons (dCall bTuple (aCons (dVar 3) aNil)) aNil)))))))
/-! _law_any_gate: 0 _law_feed_here, 1 _law_sides, 2 _law_form -/
def den__law_any_gate (m__law_draw m__law_twinned m__law_ringed m__law_gate : DF) : DS := (dSeq (dAsg (dCall m__law_draw (aCons (dVar 0) (aCons (dC (.int 3)) aNil))) (gNm 2)) (dSeq (dIf (dTest (dBin vEq (dVar 2) (dC (.int 0)))) (dRet (dCall m__law_twinned (aCons (dVar 0) (aCons (dVar 1) aNil)))) dNext) (dSeq (dIf (dTest (dBin vEq (dVar 2) (dC (.int 2)))) (dRet (dCall m__law_ringed (aCons (dVar 0) (aCons (dVar 1) aNil)))) dNext) (dRet (dCall m__law_gate (aCons (dVar 0) (aCons (dVar 1) (aCons (dBin vAdd (dC (.int 1)) (dCall m__law_draw (aCons (dVar 0) (aCons (dC (.int 8)) aNil)))) aNil))))))))
/-! _law_led_marks: 0 _law_gate_here, 1 _law_found, 2 _law_firsts, 3 _law_mark, 4 _law_some, 5 _law_n, 6 _law_first -/
def den__law_led_marks (m__law_street : DF) : DS := (dSeq (dPar [1, 2] (aCons (dLst aNil) (aCons (dLst aNil) aNil))) (dSeq (dFor (iRange1 (aCons (dCall bLen (aCons (dVar 0) aNil)) aNil)) (gNm 3) (dSeq (dAsg (dLc (iEnumD (aCons (dVar 2) aNil)) (gTp 2 (gsCons (gNm 5) (gsCons (gNm 6) gsNil))) (dTest (dBin vEq (dBin vIx (dCall m__law_street (aCons (dVar 0) (aCons (dVar 3) (aCons (dVar 0) (aCons (dVar 6) aNil))))) (dC (.int 0))) (dC (.str "alike")))) (dVar 5) [5, 6]) (gNm 4)) (dSeq (dIf (dTest (dBin vEq (dVar 4) (dLst aNil))) (dSeq (dAsg (dLst (aCons (dCall bLen (aCons (dVar 2) aNil)) aNil)) (gNm 4)) (dDrop (dMeth "list" mAppend (dVar 2) (aCons (dVar 3) aNil)))) dNext) (dDrop (dMeth "list" mAppend (dVar 1) (aCons (dBin vIx (dVar 4) (dC (.int 0))) aNil)))))) (dRet (dTup (aCons (dVar 1) (aCons (dVar 2) aNil))))))
/-! _law_due: 0 _law_gate_here, 1 _law_led, 2 _law_firsts, 3 _law_rows, 4 _law_first, 5 _law_pair -/
def den__law_due (m__law_led_marks : DF) : DS := (dSeq (dAsg (dCall m__law_led_marks (aCons (dVar 0) aNil)) (gTp 2 (gsCons (gNm 1) (gsCons (gNm 2) gsNil)))) (dSeq (dAsg (dLst aNil) (gNm 3)) (dSeq (dFor (iVal (dVar 2)) (gNm 4) (dDrop (dMeth "list" mAppend (dVar 3) (aCons (dCall bTuple (aCons (dLc (iVal (dBin vIx (dVar 0) (dVar 4))) (gNm 5) dYes (dTup (aCons (dBin vIx (dVar 5) (dC (.int 0))) (aCons (dBin vIx (dVar 1) (dBin vIx (dVar 5) (dC (.int 1)))) aNil))) [5]) aNil)) aNil)))) (dRet (dTup (aCons (dCall bTuple (aCons (dVar 3) aNil)) (aCons (dCall bTuple (aCons (dVar 1) aNil)) aNil)))))))
/-! law: 0 _law_script, 1 _law_some, 2 _law_k, 3 _law_feed_here, 4 _law_gate_here -/
def den_law (m__law_feed m__law_any_gate m__law_draw m__law_renumbered m__law_alike m__law_due m_least_gate : DF) : DS := (dSeq (dAsg (dLst aNil) (gNm 1)) (dSeq (dFor (iRange1 (aCons (dCall bMax (aCons (dC (.int 1)) (aCons (dCall bMin (aCons (dC (.int 3)) (aCons (dCall bLen (aCons (dVar 0) aNil)) aNil))) aNil))) aNil)) (gNm 2) (dSeq (dAsg (dCall m__law_feed (aCons (dVar 0) (aCons (dVar 2) aNil))) (gNm 3)) (dSeq (dAsg (dCall m__law_any_gate (aCons (dVar 3) (aCons (dBin vAdd (dC (.int 1)) (dCall m__law_draw (aCons (dVar 3) (aCons (dC (.int 6)) aNil)))) aNil))) (gNm 4)) (dAsg (dBin vAdd (dVar 1) (dLst (aCons (dVar 4) (aCons (dCall m__law_renumbered (aCons (dVar 3) (aCons (dVar 4) aNil))) aNil)))) (gNm 1))))) (dSeq (dFor (iVal (dBin vAdd (dVar 1) (dSl (dVar 1) dNoPart (dPart (dC (.int 1)))))) (gNm 4) (dIf (dTNot (dTest (dCall m__law_alike (aCons (dCall m_least_gate (aCons (dVar 4) aNil)) (aCons (dCall m__law_due (aCons (dVar 4) aNil)) aNil))))) (dRet (dC (.bl false))) dNext)) (dRet (dC (.bl true))))))
end K42
set_option Elab.async false
set_option linter.all false
set_option maxRecDepth 100000
set_option maxHeartbeats 1000000
/-! Pn1: what a drawn digit is -/
namespace Pn
open PySem PySem.Spec L2 Dn
/-! ### how denotations are run -/
theorem dDef_rt {n N : Nat} {m : DS} {xs : List D} {st st' : Store} {d : D} {env : Dn.Env} (hl : xs.length = n) (he : xs.map some ++ List.replicate (N - n) none = env) (h : m env st = .rt d st') : dDef n N m xs st = .ok d st' := by
  unfold dDef
  rw [if_pos hl, he, h]
theorem dSeq_nx {m m' : DS} {env env1 : Dn.Env} {st st1 : Store} (h : m env st = .nx env1 st1) : dSeq m m' env st = m' env1 st1 := by unfold dSeq; rw [h]
section
variable {env env1 : Dn.Env} {st st1 : Store} {d x y : D} {m ma mb : DE} {n : Nat}
@[simp] theorem e_C : dC d env st = .ok d st := rfl
@[simp] theorem e_V0 {e : Dn.Env} : dVar 0 (some x :: e) st = .ok x st := rfl
@[simp] theorem e_VS {o : Option D} {i : Nat} {e : Dn.Env} : dVar (i + 1) (o :: e) st = dVar i e st := rfl
@[simp] theorem e_Bin {f : D → D → Store → R D} : dBin f ma mb env st = (ma env st).bind fun x st1 => (mb env st1).bind fun y st2 => f x y st2 := rfl
@[simp] theorem e_Un {f : D → Store → R D} : dUn f ma env st = (ma env st).bind f := rfl
@[simp] theorem e_Test : dTest m env st = (m env st).bind fun x st1 => match x with
  | .bl b => .ok b st1
  | _ => .bad := rfl
@[simp] theorem e_anil : aNil env st = .ok [] st := rfl
@[simp] theorem e_acons {mr : DA} : aCons m mr env st = (m env st).bind fun x st1 => (mr env st1).bind fun xs st2 => .ok (x :: xs) st2 := rfl
@[simp] theorem e_call {f : List D → Store → R D} {a : DA} : dCall f a env st = (a env st).bind f := rfl
@[simp] theorem e_seq {a b : DS} : dSeq a b env st = match a env st with
  | .nx env1 st1 => b env1 st1
  | r => r := rfl
@[simp] theorem e_if {n : DB} {a b : DS} : dIf n a b env st = (n env st).toS env fun k st1 => if k then a env st1 else b env st1 := rfl
@[simp] theorem e_next : dNext env st = .nx env st := rfl
@[simp] theorem e_ret : dRet m env st = (m env st).toS env fun d st1 => .rt d st1 := rfl
@[simp] theorem e_drop : dDrop m env st = (m env st).toS env fun _ st1 => .nx env st1 := rfl
@[simp] theorem e_asg {g : DG} : dAsg m g env st = (m env st).toS env fun d st1 => match g d env st1 with
  | .ok env2 st2 => .nx env2 st2
  | _ => .bad := rfl
@[simp] theorem e_gnm {i : Nat} : gNm i d env st = .ok (env.set i (some d)) st := rfl
@[simp] theorem e_gsb {mo mi : DE} : gSb mo mi d env st = (mo env st).bind fun o st1 => (mi env st1).bind fun i st2 => (vSet o i d st2).bind fun _ st3 => .ok env st3 := rfl
@[simp] theorem e_tup {a : DA} : dTup a env st = (a env st).bind mkTup := rfl
@[simp] theorem e_lst {a : DA} : dLst a env st = (a env st).bind mkLst := rfl
@[simp] theorem e_mod {i j : Int} (h : 0 < j) : vMod (.int i) (.int j) st = .ok (.int (i % j)) st := if_pos h
@[simp] theorem e_div {i j : Int} (h : 0 < j) (h2 : j < 1073741824) : vDiv (.int i) (.int j) st = .ok (.int (i / j)) st := if_pos ⟨h, h2⟩
@[simp] theorem e_add {i j : Int} : vAdd (.int i) (.int j) st = .ok (.int (i + j)) st := rfl
@[simp] theorem e_sub {i j : Int} : vSub (.int i) (.int j) st = .ok (.int (i - j)) st := rfl
@[simp] theorem e_cmp {p : Int → Int → Bool} {i j : Int} : vCmp p (.int i) (.int j) st = .ok (.bl (p i j)) st := rfl
theorem e_mulR {i j : Int} (h : small64 j = true) : vMul (.int i) (.int j) st = .ok (.int (i * j)) st := by
  show (if (small64 i || small64 j) = true then R.ok (D.int (i * j)) st else R.bad) = _
  rw [h, Bool.or_true, if_pos rfl]
theorem e_mulL {i j : Int} (h : small64 i = true) : vMul (.int i) (.int j) st = .ok (.int (i * j)) st := by
  show (if (small64 i || small64 j) = true then R.ok (D.int (i * j)) st else R.bad) = _
  rw [h, Bool.true_or, if_pos rfl]
theorem e_ixL {xs : List D} {i : Int} {j : Nat} (h : st[n]? = some (.lst xs)) (hi : ixN xs.length i = some j) (hx : xs[j]? = some x) : vIx (.ref n) (.int i) st = .ok x st := by
  simp only [vIx, h, ixD, atI, hi, Option.bind_some, hx]
theorem e_ixT {xs : List D} {i : Int} {j : Nat} (hi : ixN xs.length i = some j) (hx : xs[j]? = some x) : vIx (.tup xs) (.int i) st = .ok x st := by
  show ixD xs i st = _
  unfold ixD atI
  rw [hi, Option.bind_some, hx]
theorem e_setL {xs : List D} {i : Int} {j : Nat} (h : st[n]? = some (.lst xs)) (hi : ixN xs.length i = some j) : vSet (.ref n) (.int i) x st = .ok () (st.set n (.lst (xs.set j x))) := by
  simp only [vSet, h, hi]
end
def pTake : DS := (dSeq (dIf (dTest (dBin vGt (dBin vIx (dVar 0) (dC (.int 0))) (dC (.int 0)))) (dSeq (dAsg (dBin vMod (dBin vIx (dVar 0) (dC (.int 0))) (dVar 1)) (gNm 2)) (dSeq (dAsg (dBin vDiv (dBin vIx (dVar 0) (dC (.int 0))) (dVar 1)) (gSb (dVar 0) (dC (.int 0)))) (dRet (dVar 2)))) dNext) (dSeq (dAsg (dBin vAdd (dBin vIx (dVar 0) (dC (.int 2))) (dC (.int 1))) (gSb (dVar 0) (dC (.int 2)))) (dSeq (dAsg (dBin vMod (dBin vMul (dBin vAdd (dBin vIx (dVar 0) (dC (.int 1))) (dBin vMul (dC (.int 104729)) (dBin vIx (dVar 0) (dC (.int 2))))) (dC (.int 69623))) (dC (.int 2147483647))) (gNm 3)) (dSeq (dAsg (dBin vAdd (dBin vMod (dBin vAdd (dBin vMul (dVar 3) (dC (.int 48271))) (dC (.int 30103))) (dC (.int 2147483629))) (dC (.int 1))) (gSb (dVar 0) (dC (.int 1)))) (dRet (dBin vMod (dBin vDiv (dBin vAdd (dBin vMul (dVar 3) (dC (.int 2147483647))) (dBin vIx (dVar 0) (dC (.int 1)))) (dC (.int 8191))) (dVar 1)))))))
/-- the cell of a box -/
def boxC (v s c : Int) : Cell := .lst [.int v, .int s, .int c]
def one (s c : Int) : Int := (s + 104729 * (c + 1)) * 69623 % 2147483647
def seed (s c : Int) : Int := (one s c * 48271 + 30103) % 2147483629 + 1
def digit (v s c m : Int) : Int := if 0 < v then v % m else (one s c * 2147483647 + seed s c) / 8191 % m
def boxV (v m : Int) : Int := if 0 < v then v / m else v
def boxS (v s c : Int) : Int := if 0 < v then s else seed s c
def boxN (v c : Int) : Int := if 0 < v then c else c + 1
theorem digit_lt (v s c : Int) {m : Int} (h : 0 < m) : 0 ≤ digit v s c m ∧ digit v s c m < m := by
  unfold digit
  split
  · exact ⟨Int.emod_nonneg _ (by omega), Int.emod_lt_of_pos _ h⟩
  · exact ⟨Int.emod_nonneg _ (by omega), Int.emod_lt_of_pos _ h⟩
theorem take_run {st : Store} {n : Nat} {v s c m : Int} (h : st[n]? = some (boxC v s c)) (h1 : 0 < m) (h2 : m < 1073741824) :
    dDef 2 4 pTake [.ref n, .int m] st = .ok (.int (digit v s c m)) (st.set n (boxC (boxV v m) (boxS v s c) (boxN v c))) := by
  have hl : n < st.length := (List.getElem?_eq_some_iff.mp h).1
  have h' : st[n]? = some (.lst [.int v, .int s, .int c]) := h
  have g0 : ∀ {a b c' : D} {S : Store}, S[n]? = some (.lst [a, b, c']) → vIx (.ref n) (.int 0) S = .ok a S := fun e => e_ixL (j := 0) e rfl rfl
  have g1 : ∀ {a b c' : D} {S : Store}, S[n]? = some (.lst [a, b, c']) → vIx (.ref n) (.int 1) S = .ok b S := fun e => e_ixL (j := 1) e rfl rfl
  have g2 : ∀ {a b c' : D} {S : Store}, S[n]? = some (.lst [a, b, c']) → vIx (.ref n) (.int 2) S = .ok c' S := fun e => e_ixL (j := 2) e rfl rfl
  have s0 : ∀ {a b c' x : D} {S : Store}, S[n]? = some (.lst [a, b, c']) → vSet (.ref n) (.int 0) x S = .ok () (S.set n (.lst [x, b, c'])) := fun e => e_setL (j := 0) e rfl
  have s1 : ∀ {a b c' x : D} {S : Store}, S[n]? = some (.lst [a, b, c']) → vSet (.ref n) (.int 1) x S = .ok () (S.set n (.lst [a, x, c'])) := fun e => e_setL (j := 1) e rfl
  have s2 : ∀ {a b c' x : D} {S : Store}, S[n]? = some (.lst [a, b, c']) → vSet (.ref n) (.int 2) x S = .ok () (S.set n (.lst [a, b, x])) := fun e => e_setL (j := 2) e rfl
  by_cases hv : 0 < v
  · simp [dDef, pTake, g0 h', hv, h1, h2, s0 h', digit, boxV, boxS, boxN, boxC]
  · have hs : ∀ {x : Cell}, (st.set n x)[n]? = some x := List.getElem?_set_self hl
    have q1 : ∀ {a b c' : D}, vIx (.ref n) (.int 1) (st.set n (.lst [a, b, c'])) = .ok b (st.set n (.lst [a, b, c'])) := g1 hs
    have q2 : ∀ {a b c' : D}, vIx (.ref n) (.int 2) (st.set n (.lst [a, b, c'])) = .ok c' (st.set n (.lst [a, b, c'])) := g2 hs
    have r1 : ∀ {a b c' x : D}, vSet (.ref n) (.int 1) x (st.set n (.lst [a, b, c'])) = .ok () (st.set n (.lst [a, x, c'])) := fun {a b c' x} => by rw [s1 hs, List.set_set]
    have k1 : small64 104729 = true := by decide
    have k2 : small64 69623 = true := by decide
    have k3 : small64 48271 = true := by decide
    have k4 : small64 2147483647 = true := by decide
    simp [dDef, pTake, g0 h', hv, h1, h2, g2 h', s2 h', q1, q2, r1, digit, boxV, boxS, boxN, boxC, e_mulL k1, e_mulR k2, e_mulR k3, e_mulR k4, one, seed]
theorem boxC_lt (v s c : Int) (n : Nat) : (boxC v s c).lt n = true := by simp [boxC, Cell.lt]
end Pn
set_option Elab.async false
set_option linter.all false
set_option maxRecDepth 100000
set_option maxHeartbeats 1000000
/-! Pn2: loops, trimmed calls, pure data -/
namespace Pn
open PySem PySem.Spec L2 Dn
/-! ### a call, trimmed -/
/-- the cells ahead stand as they stood, or hold cells ahead alone -/
def Same (st st' : Store) : Prop := ∀ i c, i < st.length → st'[i]? = some c → st[i]? = some c ∨ Cell.lt st.length c = true
theorem Same.refl (st g : Store) : Same st (st ++ g) := fun i c hi h => .inl (by rw [List.getElem?_append_left hi] at h; exact h)
theorem Same.set {st : Store} {n : Nat} {c : Cell} (g : Store) (h : c.lt st.length = true) : Same st (st.set n c ++ g) := fun i c' hi h' => by
  rw [List.getElem?_append_left (by simpa using hi)] at h'
  by_cases e : n = i
  · subst e
    rw [List.getElem?_set_self hi] at h'
    cases h'
    exact .inr h
  · rw [List.getElem?_set_ne e] at h'
    exact .inl h'
theorem Same.wf {st st' : Store} (h : Same st st') (hw : Dn.wf st) (hl : st.length ≤ st'.length) : Dn.wf (st'.take st.length) := fun c hc => by
  have hl2 : (st'.take st.length).length = st.length := by rw [List.length_take]; omega
  rw [hl2]
  obtain ⟨i, hi, e⟩ := List.getElem_of_mem hc
  rw [hl2] at hi
  have h1 : st'[i]? = some c := by
    rw [← e, List.getElem_take]
    exact List.getElem?_eq_getElem _
  rcases h i c hi h1 with q | q
  · exact hw c (List.mem_of_getElem? q)
  · exact q
open Classical in
noncomputable def trimF (m : DF) : DF := fun xs st => match m xs st with
  | .ok d st' => if st.length ≤ st'.length ∧ D.lt st.length d = true ∧ Same st st' then .ok d (st'.take st.length) else .bad
  | .exc x st' => if st.length ≤ st'.length ∧ D.ltf st.length x.fs = true ∧ Same st st' then .exc x (st'.take st.length) else .bad
  | .bad => .bad
theorem trimF_tr (m : DF) (xs : List D) (st : Store) (hw : wf st) : Tr st.length (m xs st) (trimF m xs st) := by
  unfold trimF
  cases h : m xs st with
  | bad => trivial
  | ok d st' =>
    dsimp only
    split
    · rename_i hc
      obtain ⟨h1, h2, h3⟩ := hc
      have hl : (st'.take st.length).length = st.length := by rw [List.length_take]; omega
      exact ⟨st'.drop st.length, by rw [List.take_append_drop], by rw [hl]; exact Nat.le_refl _, by rw [hl]; exact h2, h3.wf hw h1⟩
    · trivial
  | exc x st' =>
    dsimp only
    split
    · rename_i hc
      obtain ⟨h1, h2, h3⟩ := hc
      have hl : (st'.take st.length).length = st.length := by rw [List.length_take]; omega
      exact ⟨st'.drop st.length, by rw [List.take_append_drop], by rw [hl]; exact Nat.le_refl _, by rw [hl]; exact h2, h3.wf hw h1⟩
    · trivial
theorem trimF_ok {m : DF} {xs : List D} {st st2 g : Store} {d : D} (h : m xs st = .ok d (st2 ++ g)) (hl : st2.length = st.length) (hd : D.lt st.length d = true) (hw : Same st (st2 ++ g)) : trimF m xs st = .ok d st2 := by
  unfold trimF
  rw [h]
  dsimp only
  rw [if_pos ⟨by rw [List.length_append]; omega, hd, hw⟩, ← hl, List.take_left]
/-- nothing ahead was touched -/
theorem trimF_pure {m : DF} {xs : List D} {st g : Store} {d : D} (h : m xs st = .ok d (st ++ g)) (hd : D.lt st.length d = true) : trimF m xs st = .ok d st := trimF_ok h rfl hd (Same.refl st g)
/-! ### loops -/
theorem forL_run {chk : Store → Bool} {g : DG} {m : DS} (I : Nat → Dn.Env → Store → Prop) (hc : ∀ i env st, I i env st → chk st = true) : ∀ {xs : List D} {i0 : Nat} {env : Dn.Env} {st : Store}, I i0 env st →
    (∀ i x env st, xs[i]? = some x → I (i0 + i) env st → ∃ env1 st1 env2 st2, g x env st = .ok env1 st1 ∧ m env1 st1 = .nx env2 st2 ∧ I (i0 + i + 1) env2 st2) → ∃ env' st', forL chk g m xs env st = .nx env' st' ∧ I (i0 + xs.length) env' st'
  | [], i0, env, st, h, _ => ⟨env, st, by unfold forL; rw [if_pos (hc _ _ _ h)], h⟩
  | x :: xs, i0, env, st, h, hs => by
    obtain ⟨env1, st1, env2, st2, e1, e2, h2⟩ := hs 0 x env st rfl h
    obtain ⟨env', st', e3, h3⟩ := forL_run (xs := xs) I hc h2 fun i y env st hy hi => by
      have := hs (i + 1) y env st (by simpa using hy) (by have : i0 + (i + 1) = i0 + 0 + 1 + i := by omega
                                                          rw [this]; exact hi)
      obtain ⟨a, b, c, d, q1, q2, q3⟩ := this
      exact ⟨a, b, c, d, q1, q2, by have e : i0 + 0 + 1 + i + 1 = i0 + (i + 1) + 1 := by omega
                                    rw [e]; exact q3⟩
    refine ⟨env', st', ?_, by rw [List.length_cons]; have e : i0 + (xs.length + 1) = i0 + 0 + 1 + xs.length := by omega
                              rw [e]; exact h3⟩
    unfold forL
    rw [if_pos (hc _ _ _ h), e1]
    dsimp only
    rw [e2]
    exact e3
theorem lcL_run {chk : Store → Bool} {g : DG} {tt : DB} {te : DE} {env : Dn.Env} (I : Nat → List D → Store → Prop) (hc : ∀ i acc st, I i acc st → chk st = true) : ∀ {xs : List D} {i0 : Nat} {acc : List D} {st : Store}, I i0 acc st →
    (∀ i x acc st, xs[i]? = some x → I (i0 + i) acc st → ∃ env1 st1 b st2, g x env st = .ok env1 st1 ∧ tt env1 st1 = .ok b st2 ∧ (b = false → I (i0 + i + 1) acc st2) ∧ (b = true → acc.length < sizeLine ∧ ∃ y st3, te env1 st2 = .ok y st3 ∧ I (i0 + i + 1) (acc ++ [y]) st3)) →
    ∃ acc' st', lcL chk g tt te env xs acc st = .ok acc' st' ∧ I (i0 + xs.length) acc' st'
  | [], i0, acc, st, h, _ => ⟨acc, st, by unfold lcL; rw [if_pos (hc _ _ _ h)], h⟩
  | x :: xs, i0, acc, st, h, hs => by
    obtain ⟨env1, st1, b, st2, e1, e2, hf, ht⟩ := hs 0 x acc st rfl h
    have next : ∀ acc2 st2, I (i0 + 0 + 1) acc2 st2 → ∃ acc' st', lcL chk g tt te env xs acc2 st2 = .ok acc' st' ∧ I (i0 + (xs.length + 1)) acc' st' := fun acc2 st2 h2 => by
      obtain ⟨env', st', e3, h3⟩ := lcL_run (xs := xs) I hc h2 fun i y acc st hy hi => by
        have e0 : i0 + (i + 1) = i0 + 0 + 1 + i := by omega
        have := hs (i + 1) y acc st (by simpa using hy) (by rw [e0]; exact hi)
        rw [e0] at this
        exact this
      exact ⟨env', st', e3, by have e : i0 + (xs.length + 1) = i0 + 0 + 1 + xs.length := by omega
                               rw [e]; exact h3⟩
    unfold lcL
    rw [if_pos (hc _ _ _ h), e1]
    dsimp only
    rw [e2]
    cases b with
    | false => exact next acc st2 (hf rfl)
    | true =>
      obtain ⟨hl, y, st3, e3, h3⟩ := ht rfl
      dsimp only
      rw [e3]
      dsimp only
      rw [if_pos hl]
      exact next _ st3 h3
/-! ### pure data -/
def pd (d : D) : Option PyData := pyW (fun _ => none) d
theorem toPy_lst {st : Store} {n : Nat} {xs : List D} {ps : List PyData} (e : st[n]? = some (.lst xs)) (h : pyWs (pyN st 2) xs = some ps) : toPy st (.ref n) = some (.list ps) := by
  show pyN st 3 n = _
  unfold pyN
  rw [e]
  dsimp only
  rw [h]
  rfl
theorem vEq_of {st : Store} {x y : D} {p q : PyData} (hx : toPy st x = some p) (hy : toPy st y = some q) (h1 : SeqAt.shaped p = true) (h2 : SeqAt.shaped q = true) : vEq x y st = .ok (.bl (PyData.eqv p q)) st := by
  unfold vEq
  rw [hx, hy]
  dsimp only
  rw [h1, h2]
  rfl
theorem vNe_of {st : Store} {x y : D} {p q : PyData} (hx : toPy st x = some p) (hy : toPy st y = some q) (h1 : SeqAt.shaped p = true) (h2 : SeqAt.shaped q = true) : vNe x y st = .ok (.bl (!PyData.eqv p q)) st := by
  unfold vNe
  rw [hx, hy]
  dsimp only
  rw [h1, h2]
  rfl
end Pn
set_option Elab.async false
set_option linter.all false
set_option maxRecDepth 100000
set_option maxHeartbeats 1000000
/-! Pn3: gates as data; any gate drawn -/
namespace Pn
open PySem PySem.Spec L2 Dn
abbrev Gate := List (List (Nat × Nat))
def pairD (p : Nat × Nat) : D := .tup [.int (p.1 : Nat), .int (p.2 : Nat)]
def rowD (r : List (Nat × Nat)) : D := .tup (r.map pairD)
def gateD (g : Gate) : D := .tup (g.map rowD)
def pairP (p : Nat × Nat) : PyData := .tuple [.int (p.1 : Nat), .int (p.2 : Nat)]
def rowP (r : List (Nat × Nat)) : PyData := .tuple (r.map pairP)
def gateP (g : Gate) : PyData := .tuple (g.map rowP)
@[simp] theorem pair_lt (n : Nat) (p : Nat × Nat) : D.lt n (pairD p) = true := by simp [pairD]
@[simp] theorem row_lt (n : Nat) (r : List (Nat × Nat)) : D.lt n (rowD r) = true := by
  rw [rowD, D.lt_tup, D.lts_all, List.all_map, List.all_eq_true]
  exact fun p _ => pair_lt n p
@[simp] theorem gate_lt (n : Nat) (g : Gate) : D.lt n (gateD g) = true := by
  rw [gateD, D.lt_tup, D.lts_all, List.all_map, List.all_eq_true]
  exact fun p _ => row_lt n p
theorem pyWs_map {α : Type} {rf : Nat → Option PyData} {f : α → D} {h : α → PyData} (e : ∀ a, pyW rf (f a) = some (h a)) : ∀ l : List α, pyWs rf (l.map f) = some (l.map h)
  | [] => rfl
  | a :: l => by simp [pyWs, e a, pyWs_map e l]
theorem pair_py {rf : Nat → Option PyData} (p : Nat × Nat) : pyW rf (pairD p) = some (pairP p) := by simp [pairD, pyW, pyWs, pairP]
/-! data that may be compared -/
theorem canLay_all {ps : List PyData} (h : ∀ p ∈ ps, p.canLay0 = true) : PyData.canLayAll0 ps = true := by
  induction ps with
  | nil => simp [PyData.canLayAll0]
  | cons p ps ih => simp [PyData.canLayAll0, h p (List.mem_cons_self ..), ih fun q hq => h q (List.mem_cons_of_mem _ hq)]
theorem depth_all {ps : List PyData} {k : Nat} (h : ∀ p ∈ ps, p.depth ≤ k) : PyData.depthAll ps ≤ k := by
  induction ps with
  | nil => simp [PyData.depthAll]
  | cons p ps ih =>
    simp only [PyData.depthAll]
    exact Nat.max_le.mpr ⟨h p (List.mem_cons_self ..), ih fun q hq => h q (List.mem_cons_of_mem _ hq)⟩
/-- shallow data without dicts and odd texts -/
def Ok (k : Nat) (p : PyData) : Prop := p.canLay0 = true ∧ p.depth ≤ k
theorem Ok.mono {k j : Nat} {p : PyData} (h : Ok k p) (hj : k ≤ j) : Ok j p := ⟨h.1, Nat.le_trans h.2 hj⟩
theorem Ok.int (i : Int) : Ok 0 (.int i) := ⟨by simp [PyData.canLay0], by simp [PyData.depth]⟩
theorem Ok.bool (i : Bool) : Ok 0 (.bool i) := ⟨by simp [PyData.canLay0], by simp [PyData.depth]⟩
theorem Ok.none : Ok 0 .none := ⟨by simp [PyData.canLay0], by simp [PyData.depth]⟩
theorem Ok.tup {k : Nat} {ps : List PyData} (h : ∀ p ∈ ps, Ok k p) : Ok (k + 1) (.tuple ps) := ⟨by simp [PyData.canLay0, canLay_all fun p hp => (h p hp).1], by simp only [PyData.depth]; exact Nat.succ_le_succ (depth_all fun p hp => (h p hp).2)⟩
theorem Ok.lst {k : Nat} {ps : List PyData} (h : ∀ p ∈ ps, Ok k p) : Ok (k + 1) (.list ps) := ⟨by simp [PyData.canLay0, canLay_all fun p hp => (h p hp).1], by simp only [PyData.depth]; exact Nat.succ_le_succ (depth_all fun p hp => (h p hp).2)⟩
theorem Ok.shaped {k : Nat} {p : PyData} (h : Ok k p) (hk : k ≤ 64) : SeqAt.shaped p = true := by
  unfold SeqAt.shaped
  rw [h.1, Bool.true_and]
  exact decide_eq_true (Nat.le_trans h.2 hk)
theorem pair_ok (p : Nat × Nat) : Ok 1 (pairP p) := .tup fun q hq => by
  simp only [List.mem_cons, List.not_mem_nil, or_false] at hq
  rcases hq with rfl | rfl <;> exact .int _
theorem row_ok (r : List (Nat × Nat)) : Ok 2 (rowP r) := .tup fun q hq => by
  obtain ⟨p, _, rfl⟩ := List.mem_map.mp hq
  exact pair_ok p
/-! ### places in a store -/
section
variable {A q : Store} {a b x : Cell} {n : Nat}
@[simp] theorem at0 : (A ++ a :: q)[A.length]? = some a := by rw [List.getElem?_append_right (Nat.le_refl _), Nat.sub_self]; rfl
@[simp] theorem at1 : (A ++ a :: b :: q)[A.length + 1]? = some b := by rw [List.getElem?_append_right (by omega)]; simp
@[simp] theorem st0 : (A ++ a :: q).set A.length x = A ++ x :: q := by rw [List.set_append_right _ _ (Nat.le_refl _), Nat.sub_self]; rfl
@[simp] theorem st1 : (A ++ a :: b :: q).set (A.length + 1) x = A ++ a :: x :: q := by rw [List.set_append_right _ _ (by omega)]; simp
theorem atA (h : A[n]? = some x) : (A ++ q)[n]? = some x := by rw [List.getElem?_append_left (List.getElem?_eq_some_iff.mp h).1, h]
theorem setA (h : n < A.length) : (A ++ q).set n x = A.set n x ++ q := List.set_append_left _ _ h
end
/-! ### any gate -/
noncomputable def FTake : DF := trimF (dDef 2 4 pTake)
theorem FTake_ok {st : Store} {n : Nat} {v s c m : Int} (h : st[n]? = some (boxC v s c)) (h1 : 0 < m) (h2 : m < 1073741824) : FTake [.ref n, .int m] st = .ok (.int (digit v s c m)) (st.set n (boxC (boxV v m) (boxS v s c) (boxN v c))) :=
  trimF_ok (g := []) (by rw [List.append_nil]; exact take_run h h1 h2) (by simp) (by simp) (Same.set [] (boxC_lt _ _ _ _))
section
variable {env : Dn.Env} {st : Store} {n : Nat}
@[simp] theorem e_for {it : DI} {g : DG} {m : DS} : dFor it g m env st = (it env st).toS env fun its st1 => forL its.2 g m its.1 env st1 := rfl
@[simp] theorem e_while {t : DB} {m : DS} : dWhile t m env st = whileL t m FU env st := rfl
@[simp] theorem e_meth {T : String} {f : D → List D → Store → R D} {m : DE} {ma : DA} : dMeth T f m ma env st = (m env st).bind fun o st1 => if recv T o st1 then (ma env st1).bind fun xs st2 => f o xs st2 else .bad := rfl
@[simp] theorem e_gtp {k : Nat} {gs : DGs} {xs : List D} : gTp k gs (.tup xs) env st = if xs.length = k then gs xs env st else .bad := rfl
@[simp] theorem e_gsn : gsNil [] env st = .ok env st := rfl
@[simp] theorem e_gsc {g : DG} {gs : DGs} {d : D} {ds : List D} : gsCons g gs (d :: ds) env st = match g d env st with
    | .ok env1 st1 => gs ds env1 st1
    | _ => .bad := rfl
theorem mkLst_ok {xs : List D} (h : xs.length ≤ sizeLine) : mkLst xs st = .ok (.ref st.length) (st ++ [.lst xs]) := by unfold mkLst; rw [if_pos h]; rfl
theorem mkTup_ok {xs : List D} (h : xs.length ≤ sizeLine) : mkTup xs st = .ok (.tup xs) st := by unfold mkTup; rw [if_pos h]
@[simp] theorem mkLst_nil : mkLst [] st = .ok (.ref st.length) (st ++ [.lst []]) := mkLst_ok (Nat.zero_le _)
@[simp] theorem mkTup2 {x y : D} : mkTup [x, y] st = .ok (.tup [x, y]) st := mkTup_ok (show 2 ≤ sizeLine by decide)
theorem small_nat {k : Nat} (h : k ≤ 1000000) : smallR (k : Int) = true := by
  unfold smallR
  simp only [Bool.and_eq_true, decide_eq_true_eq]
  omega
theorem sl_m : 1000000 ≤ sizeLine := by rw [sizeLine_eq]; decide
theorem sl_ge (k : Nat) (h : k ≤ 1000000) : k ≤ sizeLine := Nat.le_trans h sl_m
theorem rng_get {k i : Nat} {x : D} (h : (rngD 0 k)[i]? = some x) : i < k ∧ x = .int (i : Nat) := by
  unfold rngD at h
  rw [List.getElem?_map] at h
  obtain ⟨j, h1, h2⟩ := Option.map_eq_some_iff.mp h
  have hi := (List.getElem?_eq_some_iff.mp h1).1
  simp only [List.length_range] at hi
  rw [List.getElem?_range hi] at h1
  cases h1
  exact ⟨by omega, by rw [← h2]; simp⟩
@[simp] theorem rng_len {k : Nat} : (rngD 0 k).length = k := by simp [rngD]
theorem rng_map {α : Type} (f : D → α) (k : Nat) : (rngD 0 k).map f = (List.range k).map fun i => f (.int (i : Nat)) := by
  unfold rngD
  rw [List.map_map]
  simp [Function.comp_def]
end
end Pn
set_option Elab.async false
set_option linter.all false
set_option maxRecDepth 100000
set_option maxHeartbeats 1000000
/-! Pn4: any gate drawn -/
namespace Pn
open PySem PySem.Spec L2 Dn
/-- all pairs of sides below s and marks below m, marks outside -/
def allP (s m : Nat) : List (Nat × Nat) := (List.range m).flatMap fun k => (List.range s).map fun i => (i, k)
/-- a gate of s sides and m marks -/
structure IsGate (s m : Nat) (g : Gate) : Prop where
  len : g.length = m
  rows : ∀ r ∈ g, r.length = s
  perm : g.flatten.Perm (allP s m)
theorem mem_allP {s m : Nat} {p : Nat × Nat} : p ∈ allP s m ↔ p.1 < s ∧ p.2 < m := by
  unfold allP
  simp only [List.mem_flatMap, List.mem_range, List.mem_map]
  constructor
  · rintro ⟨k, hk, i, hi, rfl⟩
    exact ⟨hi, hk⟩
  · rintro ⟨h1, h2⟩
    exact ⟨p.2, h2, p.1, h1, rfl⟩
theorem allP_len (s m : Nat) : (allP s m).length = s * m := by
  unfold allP
  rw [List.length_flatMap]
  simp only [List.length_map, List.length_range]
  induction m with
  | zero => simp
  | succ m ih => rw [List.range_succ, List.map_append, List.sum_append, ih]; simp [Nat.mul_succ]
theorem nodup_allP (s m : Nat) : (allP s m).Nodup := by
  unfold allP
  induction m with
  | zero => simp
  | succ m ih =>
    rw [List.range_succ, List.flatMap_append, List.nodup_append]
    refine ⟨ih, ?_, ?_⟩
    · simp only [List.flatMap_cons, List.flatMap_nil, List.append_nil]
      refine List.pairwise_map.mpr (List.nodup_range.imp fun {a b} h e => h (Prod.mk.inj e).1)
    · rintro a ha b hb rfl
      simp only [List.mem_flatMap, List.mem_range, List.mem_map] at ha hb
      obtain ⟨k, hk, i, hi, e⟩ := ha
      simp only [List.mem_singleton] at hb
      obtain ⟨k', e1, i', _, e2⟩ := hb
      rw [← e] at e2
      have := (Prod.mk.inj e2).2
      omega
/-! ### the first loop: all pairs, in order -/
section
variable {A : Store} {n : Nat} {v s c : Int}
/-! ### the second loop: drawn one by one -/
theorem pairs_ok (l : List (Nat × Nat)) : Ok 2 (.list (l.map pairP)) := .lst fun q hq => by
  obtain ⟨p, _, rfl⟩ := List.mem_map.mp hq
  exact pair_ok p
theorem erase_perm {α : Type} : ∀ (l : List α) (k : Nat) (h : k < l.length), (l[k] :: l.eraseIdx k).Perm l
  | [], k, h => by simp at h
  | a :: l, 0, h => by simp
  | a :: l, k + 1, h => by
    have ih := erase_perm l k (by simpa using h)
    simp only [List.getElem_cons_succ, List.eraseIdx_cons_succ]
    exact (List.Perm.swap _ _ _).trans (ih.cons a)
end
end Pn
set_option Elab.async false
set_option linter.all false
set_option maxRecDepth 100000
set_option maxHeartbeats 1000000
/-! Pn5: any gate drawn, its rows -/
namespace Pn
open PySem PySem.Spec L2 Dn
def chunk (s : Nat) (l : List (Nat × Nat)) (k : Nat) : List (Nat × Nat) := (l.drop (k * s)).take s
theorem cut_chunk {s k : Nat} {l : List (Nat × Nat)} (h : k * s + s ≤ l.length) : cutD (l.map pairD) (some ((k * s : Nat) : Int)) (some ((k * s + s : Nat) : Int)) = (chunk s l k).map pairD := by
  unfold cutD
  rw [HT.sIx_nat, HT.sIx_nat, List.length_map, Nat.min_eq_left (show k * s ≤ l.length by omega), Nat.min_eq_left h, Nat.add_sub_cancel_left, ← List.map_drop, ← List.map_take]
  rfl
end Pn
set_option Elab.async false
set_option linter.all false
set_option maxRecDepth 100000
set_option maxHeartbeats 1000000
/-! Pn6: an even gate drawn, a gate drawn, a box -/
namespace Pn
open PySem PySem.Spec L2 Dn
theorem e_eqI {i j : Int} {st : Store} : vEq (.int i) (.int j) st = .ok (.bl (decide (i = j))) st := by
  rw [vEq_of (p := .int i) (q := .int j) rfl rfl ((Ok.int i).shaped (by decide)) ((Ok.int j).shaped (by decide))]
  simp only [PyData.eqv]
  by_cases h : i = j <;> simp [h]
theorem subset_perm {α : Type} [BEq α] [LawfulBEq α] : ∀ {l l' : List α}, l.Nodup → (∀ x ∈ l, x ∈ l') → l'.length ≤ l.length → l.Perm l'
  | [], l', _, _, h => by
    have : l' = [] := List.length_eq_zero_iff.mp (by simpa using h)
    rw [this]
  | x :: l, l', hn, hs, h => by
    obtain ⟨hx, hn'⟩ := List.nodup_cons.mp hn
    have hm := hs x (List.mem_cons_self ..)
    have ih := subset_perm (l := l) (l' := l'.erase x) hn' (fun y hy => (List.mem_erase_of_ne (fun e => by subst e; exact hx hy)).mpr (hs y (List.mem_cons_of_mem _ hy))) (by rw [List.length_erase_of_mem hm]; simp at h; omega)
    exact (ih.cons x).trans (List.perm_cons_erase hm).symm
/-! ### the gate by sums -/
theorem nodup_map {α β : Type} {f : α → β} {l : List α} (hn : l.Nodup) (h : ∀ a ∈ l, ∀ b ∈ l, f a = f b → a = b) : (l.map f).Nodup := by
  have hn' : List.Pairwise (fun a b => a ≠ b) l := hn
  show List.Pairwise (fun a b => a ≠ b) _
  exact List.pairwise_map.mpr (hn'.imp_of_mem fun {a b} ha hb hne e => hne (h a ha b hb e))
/-! ### drawing -/
theorem draw {A : Store} {n : Nat} {v s c : Int} (h : A[n]? = some (boxC v s c)) {m : Nat} (h1 : 0 < m) (h2 : m ≤ 1000000) : ∃ (d : Nat) (v' s' c' : Int), d < m ∧ FTake [.ref n, .int (m : Nat)] A = .ok (.int (d : Nat)) (A.set n (boxC v' s' c')) := by
  obtain ⟨hd1, hd2⟩ := digit_lt v s c (m := (m : Nat)) (by omega)
  obtain ⟨k, hk⟩ := Int.eq_ofNat_of_zero_le hd1
  exact ⟨k, _, _, _, by omega, by rw [FTake_ok h (by omega) (by omega), hk]⟩
end Pn
set_option Elab.async false
set_option linter.all false
set_option maxHeartbeats 1000000
set_option maxRecDepth 100000
namespace Pn
open PySem PySem.Spec L2 Dn
/-! ### evaluation, what is made meanwhile lying behind -/
def Ev (A : Store) (E : Dn.Env) (m : DE) (v : D) : Prop := ∀ S, A <+: S → ∃ g, m E S = .ok v (S ++ g)
def EvB (A : Store) (E : Dn.Env) (m : DB) (b : Bool) : Prop := ∀ S, A <+: S → ∃ g, m E S = .ok b (S ++ g)
def EvA (A : Store) (E : Dn.Env) (m : DA) (vs : List D) : Prop := ∀ S, A <+: S → ∃ g, m E S = .ok vs (S ++ g)
def EvL (A : Store) (E : Dn.Env) (m : DE) (xs : List D) : Prop := ∀ S, A <+: S → ∃ n g, m E S = .ok (.ref n) (S ++ g) ∧ (S ++ g)[n]? = some (.lst xs)
def EvI (A : Store) (E : Dn.Env) (m : DI) (xs : List D) : Prop := ∀ S, A <+: S → ∃ g chk, m E S = .ok (xs, chk) (S ++ g) ∧ ∀ g', chk (S ++ g ++ g') = true
def EvR (A : Store) (E : Dn.Env) (m : DS) (v : D) : Prop := ∀ S, A <+: S → ∃ g, m E S = .rt v (S ++ g)
def EvN (A : Store) (E : Dn.Env) (m : DS) (E' : Dn.Env) : Prop := ∀ S, A <+: S → ∃ g, m E S = .nx E' (S ++ g)
/-- an operation that reads alone -/
def Op2 (A : Store) (f : D → D → Store → R D) (x y z : D) : Prop := ∀ S, A <+: S → f x y S = .ok z S
def OpF (A : Store) (f : DF) (vs : List D) (z : D) : Prop := ∀ S, A <+: S → f vs S = .ok z S
section
variable {A A' S : Store} {E E' : Dn.Env} {x y z v : D} {m ma mb mc : DE} {b b' : Bool} {xs vs : List D}
theorem pre_ext (h : A <+: S) (g : Store) : A <+: S ++ g := h.trans (List.prefix_append ..)
theorem pre_at {c : Cell} {n : Nat} (h : A <+: S) (e : A[n]? = some c) : S[n]? = some c := by
  obtain ⟨q, rfl⟩ := h
  exact atA e
theorem Ev.mono (h : Ev A E m v) (hA : A <+: A') : Ev A' E m v := fun S hS => h S (hA.trans hS)
theorem OpF.mono {f : DF} (h : OpF A f vs v) (hA : A <+: A') : OpF A' f vs v := fun S hS => h S (hA.trans hS)
theorem EvL.mono (h : EvL A E m xs) (hA : A <+: A') : EvL A' E m xs := fun S hS => h S (hA.trans hS)
theorem Ev.c (d : D) : Ev A E (dC d) d := fun S _ => ⟨[], by rw [List.append_nil]; rfl⟩
theorem Ev.var {i : Nat} (h : E[i]? = some (some v)) : Ev A E (dVar i) v := fun S _ => ⟨[], by rw [List.append_nil]; unfold dVar; rw [h]⟩
theorem Ev.bin {f : D → D → Store → R D} (ha : Ev A E ma x) (hb : Ev A E mb y) (hf : Op2 A f x y z) : Ev A E (dBin f ma mb) z := fun S hS => by
  obtain ⟨g1, e1⟩ := ha S hS
  obtain ⟨g2, e2⟩ := hb _ (pre_ext hS g1)
  refine ⟨g1 ++ g2, ?_⟩
  rw [e_Bin, e1, Dn.R.bind_ok, e2, Dn.R.bind_ok, hf _ (pre_ext (pre_ext hS g1) g2), List.append_assoc]
theorem EvA.nil : EvA A E aNil [] := fun S _ => ⟨[], by rw [List.append_nil]; rfl⟩
theorem EvA.cons {ma : DA} (h : Ev A E m x) (ha : EvA A E ma xs) : EvA A E (aCons m ma) (x :: xs) := fun S hS => by
  obtain ⟨g1, e1⟩ := h S hS
  obtain ⟨g2, e2⟩ := ha _ (pre_ext hS g1)
  refine ⟨g1 ++ g2, ?_⟩
  rw [e_acons, e1, Dn.R.bind_ok, e2, Dn.R.bind_ok, List.append_assoc]
theorem Ev.tup {ma : DA} (h : EvA A E ma xs) (hl : xs.length ≤ sizeLine) : Ev A E (dTup ma) (.tup xs) := fun S hS => by
  obtain ⟨g1, e1⟩ := h S hS
  exact ⟨g1, by rw [e_tup, e1, Dn.R.bind_ok, mkTup_ok hl]⟩
theorem Ev.tup2 (h : Ev A E ma x) (h2 : Ev A E mb y) : Ev A E (dTup (aCons ma (aCons mb aNil))) (.tup [x, y]) := Ev.tup (.cons h (.cons h2 .nil)) (show 2 ≤ sizeLine by decide)
theorem EvL.lst {ma : DA} (h : EvA A E ma xs) (hl : xs.length ≤ sizeLine) : EvL A E (dLst ma) xs := fun S hS => by
  obtain ⟨g1, e1⟩ := h S hS
  refine ⟨(S ++ g1).length, g1 ++ [.lst xs], ?_, ?_⟩
  · rw [e_lst, e1, Dn.R.bind_ok, mkLst_ok hl, List.append_assoc]
  · rw [← List.append_assoc]; exact at0
theorem Ev.call {f : DF} {ma : DA} (h : EvA A E ma vs) (hf : OpF A f vs v) : Ev A E (dCall f ma) v := fun S hS => by
  obtain ⟨g1, e1⟩ := h S hS
  exact ⟨g1, by rw [e_call, e1, Dn.R.bind_ok, hf _ (pre_ext hS g1)]⟩
theorem Ev.callL {f : DF} (h : EvL A E m xs) (hf : ∀ S n, S[n]? = some (.lst xs) → f [.ref n] S = .ok v S) : Ev A E (dCall f (aCons m aNil)) v := fun S hS => by
  obtain ⟨n, g1, e1, h1⟩ := h S hS
  exact ⟨g1, by rw [e_call, e_acons, e1, Dn.R.bind_ok, e_anil, Dn.R.bind_ok, Dn.R.bind_ok, hf _ _ h1]⟩
theorem tuple_at {n : Nat} (h : S[n]? = some (.lst xs)) : bTuple [.ref n] S = .ok (.tup xs) S := by
  unfold bTuple
  dsimp only
  rw [h]
theorem len_at {n : Nat} (h : S[n]? = some (.lst xs)) : bLen [.ref n] S = .ok (.int xs.length) S := by
  unfold bLen
  dsimp only
  rw [h]
theorem len_tup : OpF A bLen [.tup xs] (.int xs.length) := fun _ _ => rfl
theorem blsOf_map {α : Type} (f : α → Bool) : ∀ l : List α, blsOf (l.map fun a => D.bl (f a)) = some (l.map f)
  | [] => rfl
  | a :: l => by simp [blsOf, blsOf_map f l]
theorem all_at {α : Type} {f : α → Bool} {l : List α} {n : Nat} (h : S[n]? = some (.lst (l.map fun a => D.bl (f a)))) : bAll [.ref n] S = .ok (.bl (l.all f)) S := by
  unfold bAll
  dsimp only
  unfold lstAt
  dsimp only
  rw [h]
  dsimp only
  rw [Option.bind_some, blsOf_map]
  simp [List.all_map, Function.comp_def]
theorem EvB.test (h : Ev A E m (.bl b)) : EvB A E (dTest m) b := fun S hS => by
  obtain ⟨g, e⟩ := h S hS
  exact ⟨g, by rw [e_Test, e, Dn.R.bind_ok]⟩
theorem EvB.not {n : DB} (h : EvB A E n b) : EvB A E (dTNot n) (!b) := fun S hS => by
  obtain ⟨g, e⟩ := h S hS
  exact ⟨g, by unfold dTNot; rw [e, Dn.R.bind_ok]⟩
theorem EvB.or {n n' : DB} (h : EvB A E n b) (h' : b = false → EvB A E n' b') : EvB A E (dTOr n n') (b || b') := fun S hS => by
  obtain ⟨g, e⟩ := h S hS
  cases b with
  | true => exact ⟨g, by unfold dTOr; rw [e, Dn.R.bind_ok]; rfl⟩
  | false =>
    obtain ⟨g2, e2⟩ := h' rfl _ (pre_ext hS g)
    exact ⟨g ++ g2, by unfold dTOr; rw [e, Dn.R.bind_ok, if_neg Bool.false_ne_true, e2, List.append_assoc]; rfl⟩
theorem Ev.and (h : Ev A E ma (.bl b)) (h' : b = true → Ev A E mb (.bl b')) : Ev A E (dAnd ma mb) (.bl (b && b')) := fun S hS => by
  obtain ⟨g, e⟩ := h S hS
  cases b with
  | false => exact ⟨g, by unfold dAnd; rw [e, Dn.R.bind_ok]; rfl⟩
  | true =>
    obtain ⟨g2, e2⟩ := h' rfl _ (pre_ext hS g)
    exact ⟨g ++ g2, by unfold dAnd; rw [e, Dn.R.bind_ok]; dsimp only; rw [e2, List.append_assoc]; rfl⟩
theorem Ev.not (h : Ev A E ma (.bl b)) : Ev A E (dNot ma) (.bl !b) := fun S hS => by
  obtain ⟨g, e⟩ := h S hS
  exact ⟨g, by unfold dNot; rw [e, Dn.R.bind_ok]⟩
theorem Ev.chain {f f' : D → D → Store → R D} (ha : Ev A E ma x) (hb : Ev A E mb y) (hf : Op2 A f x y (.bl true)) (hc : Ev A E mc z) (hf' : Op2 A f' y z v) : Ev A E (dChain f f' ma mb mc) v := fun S hS => by
  obtain ⟨g1, e1⟩ := ha S hS
  obtain ⟨g2, e2⟩ := hb _ (pre_ext hS g1)
  obtain ⟨g3, e3⟩ := hc _ (pre_ext (pre_ext hS g1) g2)
  refine ⟨g1 ++ g2 ++ g3, ?_⟩
  unfold dChain
  rw [e1, Dn.R.bind_ok, e2, Dn.R.bind_ok, hf _ (pre_ext (pre_ext hS g1) g2), Dn.R.bind_ok]
  dsimp only
  rw [e3, Dn.R.bind_ok, hf' _ (pre_ext (pre_ext (pre_ext hS g1) g2) g3)]
  simp
/-! walks -/
theorem EvI.tup (h : Ev A E m (.tup xs)) : EvI A E (iVal m) xs := fun S hS => by
  obtain ⟨g, e⟩ := h S hS
  exact ⟨g, fun _ => true, by unfold iVal; rw [e, Dn.R.bind_ok]; rfl, fun _ => rfl⟩
theorem EvI.range {k : Nat} (h : Ev A E m (.int (k : Nat))) (hk : k ≤ 1000000) : EvI A E (iRange1 (aCons m aNil)) (rngD 0 k) := fun S hS => by
  obtain ⟨g, e⟩ := h S hS
  refine ⟨g, fun _ => true, ?_, fun _ => rfl⟩
  have e1 : aCons m aNil E S = .ok [.int (k : Nat)] (S ++ g) := by simp [e]
  unfold iRange1
  rw [e1, Dn.R.bind_ok]
  dsimp only
  rw [if_pos (small_nat hk)]
/-! comprehensions -/
/-- the same over data of one's own -/
theorem EvL.lcA {α : Type} {l : List α} {h : α → D} {it : DI} {g : DG} {te : DE} {ws : List Nat} (f : α → D) (hi : EvI A E it (l.map h)) (hl : l.length ≤ sizeLine) (hs : ∀ x ∈ l, ∃ E', (∀ S, g (h x) (dWipe E ws) S = .ok E' S) ∧ Ev A E' te (f x)) : EvL A E (dLc it g dYes te ws) (l.map f) := fun S hS => by
  obtain ⟨g1, chk, e1, hc⟩ := hi S hS
  obtain ⟨acc', st', e2, e3, q', e4⟩ := lcL_run (chk := chk) (g := g) (tt := dYes) (te := te) (env := dWipe E ws) (fun i acc st => acc = (l.take i).map f ∧ ∃ q, st = S ++ g1 ++ q) (fun i a st ⟨_, q, h⟩ => by rw [h]; exact hc q) (xs := l.map h) (i0 := 0) (acc := []) (st := S ++ g1) ⟨by simp, [], by simp⟩ (by
    rintro i x a st hx ⟨rfl, q, rfl⟩
    rw [List.getElem?_map] at hx
    obtain ⟨y, hy, rfl⟩ := Option.map_eq_some_iff.mp hx
    obtain ⟨E', h1, h2⟩ := hs y (List.mem_of_getElem? hy)
    obtain ⟨g2, h3⟩ := h2 _ (pre_ext (pre_ext hS g1) q)
    have hi : i < l.length := (List.getElem?_eq_some_iff.mp hy).1
    refine ⟨E', _, true, _, h1 _, rfl, fun z => (by cases z), fun _ => ⟨by simp; omega, f y, _, h3, ?_, q ++ g2, by simp⟩⟩
    have e0 : 0 + i + 1 = i + 1 := by omega
    rw [e0, List.take_add_one, hy]
    simp)
  rw [Nat.zero_add, List.length_map, List.take_length] at e3
  refine ⟨(S ++ g1 ++ q').length, g1 ++ q' ++ [.lst (l.map f)], ?_, ?_⟩
  · unfold dLc
    rw [e1, Dn.R.bind_ok]
    dsimp only
    rw [e2, Dn.R.bind_ok, e3, e4]
    unfold Dn.alloc
    simp
  · have e : S ++ (g1 ++ q' ++ [.lst (l.map f)]) = (S ++ g1 ++ q') ++ [Cell.lst (l.map f)] := by simp
    rw [e]
    exact at0
/-! statements -/
theorem EvR.ret (h : Ev A E m v) : EvR A E (dRet m) v := fun S hS => by
  obtain ⟨g, e⟩ := h S hS
  exact ⟨g, by rw [e_ret, e, R.toS_ok]⟩
theorem EvN.next : EvN A E dNext E := fun S _ => ⟨[], by simp⟩
theorem EvN.asg {i : Nat} (h : Ev A E m v) : EvN A E (dAsg m (gNm i)) (E.set i (some v)) := fun S hS => by
  obtain ⟨g, e⟩ := h S hS
  exact ⟨g, by rw [e_asg, e, R.toS_ok]; rfl⟩
theorem EvN.seqR {a c : DS} (h : EvN A E a E') (h' : EvR A E' c v) : EvR A E (dSeq a c) v := fun S hS => by
  obtain ⟨g, e⟩ := h S hS
  obtain ⟨g2, e2⟩ := h' _ (pre_ext hS g)
  exact ⟨g ++ g2, by rw [dSeq_nx e, e2, List.append_assoc]⟩
theorem EvN.seq {a c : DS} {E2 : Dn.Env} (h : EvN A E a E') (h' : EvN A E' c E2) : EvN A E (dSeq a c) E2 := fun S hS => by
  obtain ⟨g, e⟩ := h S hS
  obtain ⟨g2, e2⟩ := h' _ (pre_ext hS g)
  exact ⟨g ++ g2, by rw [dSeq_nx e, e2, List.append_assoc]⟩
theorem EvR.seq {a c : DS} (h : EvR A E a v) : EvR A E (dSeq a c) v := fun S hS => by
  obtain ⟨g, e⟩ := h S hS
  exact ⟨g, by rw [e_seq, e]⟩
theorem EvN.ifF {n : DB} {a c : DS} (h : EvB A E n false) (h' : EvN A E c E') : EvN A E (dIf n a c) E' := fun S hS => by
  obtain ⟨g, e⟩ := h S hS
  obtain ⟨g2, e2⟩ := h' _ (pre_ext hS g)
  exact ⟨g ++ g2, by rw [e_if, e, R.toS_ok, if_neg Bool.false_ne_true, e2, List.append_assoc]⟩
theorem EvN.ifT {n : DB} {a c : DS} (h : EvB A E n true) (h' : EvN A E a E') : EvN A E (dIf n a c) E' := fun S hS => by
  obtain ⟨g, e⟩ := h S hS
  obtain ⟨g2, e2⟩ := h' _ (pre_ext hS g)
  exact ⟨g ++ g2, by rw [e_if, e, R.toS_ok, if_pos rfl, e2, List.append_assoc]⟩
/-- a def that returns data and leaves nothing -/
theorem EvR.trim {m : DS} {a k : Nat} {vs : List D} (h : EvR A (vs.map some ++ List.replicate (k - a) none) m v) (hl : vs.length = a) (hv : ∀ n, D.lt n v = true) : OpF A (trimF (dDef a k m)) vs v := fun S hS => by
  obtain ⟨g, e⟩ := h S hS
  exact trimF_pure (g := g) (dDef_rt hl rfl e) (hv _)
end
end Pn
set_option Elab.async false
set_option linter.all false
set_option maxHeartbeats 1000000
set_option maxRecDepth 100000
namespace Pn
open PySem PySem.Spec L2 Dn
def den_is_whole : DS := (dRet (dAnd (dCall bIsi (aCons (dVar 0) (aCons (dC (.ty "int")) aNil))) (dNot (dCall bIsi (aCons (dVar 0) (aCons (dC (.ty "bool")) aNil))))))
def den_is_pair (m_is_whole : DF) : DS := (dRet (dAnd (dCall bIsi (aCons (dVar 0) (aCons (dC (.ty "tuple")) aNil))) (dAnd (dBin vEq (dCall bLen (aCons (dVar 0) aNil)) (dC (.int 2))) (dAnd (dCall m_is_whole (aCons (dBin vIx (dVar 0) (dC (.int 0))) aNil)) (dCall m_is_whole (aCons (dBin vIx (dVar 0) (dC (.int 1))) aNil))))))
def den_has_form (m_is_pair : DF) : DS := (dSeq (dIf (dTOr (dTNot (dTest (dCall bIsi (aCons (dVar 0) (aCons (dC (.ty "tuple")) aNil))))) (dTest (dBin vEq (dCall bLen (aCons (dVar 0) aNil)) (dC (.int 0))))) (dRet (dC (.bl false))) dNext) (dSeq (dIf (dTNot (dTest (dCall bAll (aCons (dLc (iVal (dVar 0)) (gNm 1) dYes (dAnd (dCall bIsi (aCons (dVar 1) (aCons (dC (.ty "tuple")) aNil))) (dBin vGt (dCall bLen (aCons (dVar 1) aNil)) (dC (.int 0)))) [1]) aNil)))) (dRet (dC (.bl false))) dNext) (dRet (dCall bAll (aCons (dLc (iVal (dVar 0)) (gNm 1) dYes (dAnd (dBin vEq (dCall bLen (aCons (dVar 1) aNil)) (dCall bLen (aCons (dBin vIx (dVar 0) (dC (.int 0))) aNil))) (dCall bAll (aCons (dLc (iVal (dVar 1)) (gNm 2) dYes (dCall m_is_pair (aCons (dVar 2) aNil)) [2]) aNil))) [1]) aNil)))))
def den_look_gate (m_has_form : DF) : DS := (dSeq (dIf (dTNot (dTest (dCall m_has_form (aCons (dVar 0) aNil)))) dBad dNext) (dSeq (dAsg dNewT (gNm 1)) (dSeq (dFor (iEnumD (aCons (dLc2 (iVal (dVar 0)) (gNm 5) dYes (iVal (dVar 5)) (gNm 6) dYes (dVar 6) [5, 6] [6]) aNil)) (gTp 2 (gsCons (gNm 2) (gsCons (gTp 2 (gsCons (gNm 3) (gsCons (gNm 4) gsNil))) gsNil))) (dSeq (dIf (dTNot (dTest (dChain vLe vLt (dC (.int 0)) (dVar 3) (dCall bLen (aCons (dBin vIx (dVar 0) (dC (.int 0))) aNil))))) dBad dNext) (dSeq (dIf (dTNot (dTest (dChain vLe vLt (dC (.int 0)) (dVar 4) (dCall bLen (aCons (dVar 0) aNil))))) dBad dNext) (dSeq (dIf (dTest (dBin (vIn false) (dTup (aCons (dVar 3) (aCons (dVar 4) aNil))) (dVar 1))) dBad dNext) (dAsg (dC (.bl true)) (gSb (dVar 1) (dTup (aCons (dVar 3) (aCons (dVar 4) aNil))))))))) (dRet (dC (.bl true))))))
def den__law_alike : DS := (dSeq (dAsg (dLst (aCons (dTup (aCons (dVar 0) (aCons (dVar 1) aNil))) aNil)) (gNm 2)) (dSeq (dWhile (dTest (dBin vNe (dVar 2) (dLst aNil))) (dSeq (dAsg (dMeth "list" mPop (dVar 2) aNil) (gTp 2 (gsCons (gNm 3) (gsCons (gNm 4) gsNil)))) (dIf (dTest (dCall bIsi (aCons (dVar 4) (aCons (dTup (aCons (dC (.ty "tuple")) (aCons (dC (.ty "list")) aNil))) aNil)))) (dSeq (dIf (dTOr (dTest (dBin vNe (dCall bIsi (aCons (dVar 3) (aCons (dC (.ty "tuple")) aNil))) (dCall bIsi (aCons (dVar 4) (aCons (dC (.ty "tuple")) aNil))))) (dTest (dBin vNe (dCall bIsi (aCons (dVar 3) (aCons (dC (.ty "list")) aNil))) (dCall bIsi (aCons (dVar 4) (aCons (dC (.ty "list")) aNil)))))) (dRet (dC (.bl false))) dNext) (dSeq (dIf (dTest (dBin vNe (dCall bLen (aCons (dVar 3) aNil)) (dCall bLen (aCons (dVar 4) aNil)))) (dRet (dC (.bl false))) dNext) (dDrop (dMeth "list" mExtend (dVar 2) (aCons (dListZip (aCons (dVar 3) (aCons (dVar 4) aNil))) aNil))))) (dIf (dTOr (dTest (dCall bIsi (aCons (dVar 3) (aCons (dTup (aCons (dC (.ty "tuple")) (aCons (dC (.ty "list")) (aCons (dC (.ty "dict")) aNil)))) aNil)))) (dTOr (dTest (dBin vNe (dCall bIsi (aCons (dVar 3) (aCons (dC (.ty "bool")) aNil))) (dCall bIsi (aCons (dVar 4) (aCons (dC (.ty "bool")) aNil))))) (dTest (dBin vNe (dVar 3) (dVar 4))))) (dRet (dC (.bl false))) dNext)))) (dRet (dC (.bl true)))))
def den__law_any_gate (m__law_take : DF) : DS := (dSeq (dAsg (dTup (aCons (dLst aNil) (aCons (dLst aNil) aNil))) (gTp 2 (gsCons (gNm 3) (gsCons (gNm 4) gsNil)))) (dSeq (dFor (iRange1 (aCons (dVar 2) aNil)) (gNm 5) (dDrop (dMeth "list" mExtend (dVar 3) (aCons (dLc (iRange1 (aCons (dVar 1) aNil)) (gNm 6) dYes (dTup (aCons (dVar 6) (aCons (dVar 5) aNil))) [6]) aNil)))) (dSeq (dWhile (dTest (dBin vNe (dVar 3) (dLst aNil))) (dDrop (dMeth "list" mAppend (dVar 4) (aCons (dMeth "list" mPopAt (dVar 3) (aCons (dCall m__law_take (aCons (dVar 0) (aCons (dCall bLen (aCons (dVar 3) aNil)) aNil))) aNil)) aNil)))) (dRet (dCall bTuple (aCons (dLc (iRange1 (aCons (dVar 2) aNil)) (gNm 5) dYes (dCall bTuple (aCons (dSl (dVar 4) (dPart (dBin vMul (dVar 5) (dVar 1))) (dPart (dBin vAdd (dBin vMul (dVar 5) (dVar 1)) (dVar 1)))) aNil)) [5]) aNil))))))
def den__law_gate (m__law_take m__law_even_gate m__law_any_gate : DF) : DS := (dSeq (dPar [1, 2] (aCons (dBin vAdd (dC (.int 1)) (dCall m__law_take (aCons (dVar 0) (aCons (dVar 1) aNil)))) (aCons (dBin vAdd (dC (.int 1)) (dCall m__law_take (aCons (dVar 0) (aCons (dVar 2) aNil)))) aNil))) (dSeq (dIf (dTest (dBin vEq (dCall m__law_take (aCons (dVar 0) (aCons (dC (.int 3)) aNil))) (dC (.int 0)))) (dRet (dCall m__law_even_gate (aCons (dVar 0) (aCons (dVar 1) (aCons (dVar 2) aNil))))) dNext) (dRet (dCall m__law_any_gate (aCons (dVar 0) (aCons (dVar 1) (aCons (dVar 2) aNil)))))))
def den__law_due : DS := (dSeq (dPar [2, 3, 4] (aCons (dLst aNil) (aCons (dCall bLen (aCons (dVar 1) aNil)) (aCons (dCall bLen (aCons (dBin vIx (dVar 0) (dC (.int 0))) aNil)) aNil)))) (dSeq (dFor (iRange1 (aCons (dBin vMul (dCall bLen (aCons (dVar 0) aNil)) (dVar 3)) aNil)) (gNm 5) (dSeq (dPar [6, 7] (aCons (dBin vDiv (dVar 5) (dVar 3)) (aCons (dBin vSub (dVar 5) (dBin vMul (dBin vDiv (dVar 5) (dVar 3)) (dVar 3))) aNil))) (dSeq (dAsg (dLst aNil) (gNm 8)) (dSeq (dFor (iVal (dBin vIx (dVar 0) (dVar 6))) (gTp 2 (gsCons (gNm 9) (gsCons (gNm 10) gsNil))) (dDrop (dMeth "list" mAppend (dVar 8) (aCons (dTup (aCons (dVar 9) (aCons (dBin vAdd (dBin vMul (dVar 10) (dVar 3)) (dVar 7)) aNil))) aNil)))) (dSeq (dFor (iVal (dBin vIx (dVar 1) (dVar 7))) (gTp 2 (gsCons (gNm 9) (gsCons (gNm 10) gsNil))) (dDrop (dMeth "list" mAppend (dVar 8) (aCons (dTup (aCons (dBin vAdd (dVar 4) (dVar 9)) (aCons (dBin vAdd (dBin vMul (dVar 6) (dVar 3)) (dVar 10)) aNil))) aNil)))) (dDrop (dMeth "list" mAppend (dVar 2) (aCons (dCall bTuple (aCons (dVar 8) aNil)) aNil)))))))) (dRet (dCall bTuple (aCons (dVar 2) aNil)))))
end Pn
set_option Elab.async false
set_option linter.all false
set_option maxHeartbeats 1000000
set_option maxRecDepth 100000
namespace Pn
open PySem PySem.Spec L2 Dn
section
variable {A S : Store} {E : Dn.Env}
theorem op_add {i j : Int} : Op2 A vAdd (.int i) (.int j) (.int (i + j)) := fun _ _ => rfl
theorem op_mod {i j : Int} (h : 0 < j) : Op2 A vMod (.int i) (.int j) (.int (i % j)) := fun _ _ => e_mod h
theorem op_cmp {p : Int → Int → Bool} {i j : Int} : Op2 A (vCmp p) (.int i) (.int j) (.bl (p i j)) := fun _ _ => rfl
theorem op_mulR {i j : Int} (h : small64 j = true) : Op2 A vMul (.int i) (.int j) (.int (i * j)) := fun _ _ => e_mulR h
theorem op_ixT {xs : List D} {i : Int} {j : Nat} {x : D} (hi : ixN xs.length i = some j) (hx : xs[j]? = some x) : Op2 A vIx (.tup xs) (.int i) x := fun _ _ => e_ixT hi hx
theorem op_eqI {i j : Int} : Op2 A vEq (.int i) (.int j) (.bl (decide (i = j))) := fun _ _ => e_eqI
theorem ixN_nat {k i : Nat} (h : i < k) : ixN k (i : Int) = some i := by
  unfold ixN
  split
  · rw [if_pos (by omega)]; simp
  · omega
theorem small_of {k : Nat} (h : k < 1000000) : Dn.small64 (k : Int) = true := by
  unfold Dn.small64
  simp only [Bool.and_eq_true, decide_eq_true_eq]
  omega
theorem isi_tup {xs : List D} : OpF A bIsi [.tup xs, .ty "tuple"] (.bl true) := fun _ _ => rfl
theorem isi_int {i : Int} : OpF A bIsi [.int i, .ty "int"] (.bl true) := fun _ _ => rfl
theorem isi_intb {i : Int} : OpF A bIsi [.int i, .ty "bool"] (.bl false) := fun _ _ => rfl
noncomputable def FWhole : DF := trimF (dDef 1 1 den_is_whole)
theorem whole_ok {i : Int} : OpF A FWhole [.int i] (.bl true) :=
  EvR.trim (EvR.ret (Ev.and (b := true) (b' := true) (Ev.call (.cons (.var rfl) (.cons (.c _) .nil)) isi_int) fun _ => Ev.not (b := false) (Ev.call (.cons (.var rfl) (.cons (.c _) .nil)) isi_intb))) rfl fun _ => rfl
noncomputable def FPair : DF := trimF (dDef 1 1 (den_is_pair FWhole))
theorem pairF_ok {p : Nat × Nat} : OpF A FPair [pairD p] (.bl true) :=
  EvR.trim (EvR.ret (Ev.and (b := true) (b' := true) (Ev.call (.cons (.var rfl) (.cons (.c _) .nil)) isi_tup) fun _ =>
    Ev.and (b := true) (b' := true) (Ev.bin (Ev.call (.cons (.var rfl) .nil) len_tup) (.c _) op_eqI) fun _ =>
    Ev.and (b := true) (b' := true) (Ev.call (.cons (Ev.bin (.var rfl) (.c _) (op_ixT (j := 0) rfl rfl)) .nil) whole_ok) fun _ =>
    Ev.call (.cons (Ev.bin (.var rfl) (.c _) (op_ixT (j := 1) rfl rfl)) .nil) whole_ok)) rfl fun _ => rfl
/-- the shape of a gate -/
structure Shape (s m : Nat) (g : Gate) : Prop where
  len : g.length = m
  rows : ∀ r ∈ g, r.length = s
  s0 : 0 < s
  m0 : 0 < m
  s1 : s ≤ 1000
  m1 : m ≤ 1000
noncomputable def FForm : DF := trimF (dDef 1 3 (den_has_form FPair))
theorem form_ok {s m : Nat} {g : Gate} (h : Shape s m g) : OpF A FForm [gateD g] (.bl true) := by
  have hm := h.m0
  have hs := h.s0
  have hs1 := h.s1
  have hm1 := h.m1
  have hl := h.len
  have hg0 : ∃ r, g[0]? = some r := ⟨g[0]'(by omega), List.getElem?_eq_getElem _⟩
  obtain ⟨r0, hr0⟩ := hg0
  have hr0l := h.rows r0 (List.mem_of_getElem? hr0)
  refine EvR.trim (EvN.seqR (EvN.ifF (EvB.or (b := false) (b' := false) (EvB.not (b := true) (EvB.test (Ev.call (.cons (.var rfl) (.cons (.c _) .nil)) isi_tup))) fun _ => ?_) .next) (EvN.seqR (EvN.ifF (EvB.not (b := true) (EvB.test ?_)) .next) (EvR.ret ?_))) rfl fun _ => rfl
  · have e := EvB.test (Ev.bin (A := A) (E := [some (gateD g), none, none]) (Ev.call (.cons (.var (i := 0) (v := gateD g) rfl) .nil) len_tup) (.c (.int 0)) op_eqI)
    rw [show decide ((((g.map rowD).length : Nat) : Int) = 0) = false from decide_eq_false (by rw [List.length_map]; omega)] at e
    exact e
  · have e := Ev.callL (A := A) (E := [some (gateD g), none, none]) (EvL.lcA (ws := [1]) (g := gNm 1) (te := (dAnd (dCall bIsi (aCons (dVar 1) (aCons (dC (.ty "tuple")) aNil))) (dBin vGt (dCall bLen (aCons (dVar 1) aNil)) (dC (.int 0))))) (l := g) (h := rowD) (fun r => .bl (decide (0 < r.length))) (EvI.tup (.var (i := 0) rfl)) (sl_ge _ (by omega)) fun r _ => ⟨_, fun _ => rfl, ?_⟩) fun S n hn => all_at hn
    · rw [show (g.all fun r => decide (0 < r.length)) = true from List.all_eq_true.mpr fun r hr => decide_eq_true (by have := h.rows r hr; omega)] at e
      exact e
    · have e2 := Ev.and (A := A) (E := [some (gateD g), some (rowD r), none]) (b := true) (Ev.call (.cons (.var (i := 1) (v := rowD r) rfl) (.cons (.c _) .nil)) isi_tup) fun _ => Ev.bin (Ev.call (.cons (.var (i := 1) (v := rowD r) rfl) .nil) len_tup) (.c (.int 0)) (op_cmp (p := fun i j => decide (j < i)))
      rw [List.length_map, Bool.true_and] at e2
      simp only [Int.natCast_pos] at e2
      exact e2
  · have e := Ev.callL (A := A) (E := [some (gateD g), none, none]) (EvL.lcA (ws := [1]) (g := gNm 1) (te := (dAnd (dBin vEq (dCall bLen (aCons (dVar 1) aNil)) (dCall bLen (aCons (dBin vIx (dVar 0) (dC (.int 0))) aNil))) (dCall bAll (aCons (dLc (iVal (dVar 1)) (gNm 2) dYes (dCall FPair (aCons (dVar 2) aNil)) [2]) aNil)))) (l := g) (h := rowD) (fun r => .bl true) (EvI.tup (.var (i := 0) rfl)) (sl_ge _ (by omega)) fun r hr => ⟨_, fun _ => rfl, ?_⟩) fun S n hn => all_at hn
    · rw [show (g.all fun r => true) = true from List.all_eq_true.mpr fun r hr => rfl] at e
      exact e
    · have hrl := h.rows r hr
      have e2 := Ev.and (A := A) (E := [some (gateD g), some (rowD r), none]) (b := true) (b' := true) (ma := dBin vEq (dCall bLen (aCons (dVar 1) aNil)) (dCall bLen (aCons (dBin vIx (dVar 0) (dC (.int 0))) aNil))) (mb := (dCall bAll (aCons (dLc (iVal (dVar 1)) (gNm 2) dYes (dCall FPair (aCons (dVar 2) aNil)) [2]) aNil))) ?_ fun _ => ?_
      · exact e2
      · have e3 := Ev.bin (A := A) (E := [some (gateD g), some (rowD r), none]) (Ev.call (.cons (.var (i := 1) (v := rowD r) rfl) .nil) len_tup) (Ev.call (.cons (Ev.bin (.var (i := 0) (v := gateD g) rfl) (.c (.int 0)) (op_ixT (x := rowD r0) (j := 0) (ixN_nat (i := 0) (by rw [List.length_map]; omega)) (by rw [List.getElem?_map, hr0]; rfl))) .nil) len_tup) op_eqI
        rw [List.length_map, List.length_map, hrl, hr0l] at e3
        simpa using e3
      · have e3 := Ev.callL (A := A) (E := [some (gateD g), some (rowD r), none]) (EvL.lcA (ws := [2]) (g := gNm 2) (te := dCall FPair (aCons (dVar 2) aNil)) (l := r) (h := pairD) (fun r => .bl true) (EvI.tup (.var (i := 1) rfl)) (sl_ge _ (by omega)) fun p hp => ⟨_, fun _ => rfl, Ev.call (.cons (.var rfl) .nil) pairF_ok⟩) fun S n hn => all_at hn
        rw [show (r.all fun r => true) = true from List.all_eq_true.mpr fun r hr => rfl] at e3
        exact e3
end
end Pn
set_option Elab.async false
set_option linter.all false
set_option maxHeartbeats 1000000
set_option maxRecDepth 100000
namespace Pn
open PySem PySem.Spec L2 Dn
section
variable {A S B : Store} {E E' : Dn.Env} {m ma mb : DE} {xs ys vs : List D} {x y v : D}
theorem EvL.var {i n : Nat} (h : E[i]? = some (some (.ref n))) (hn : A[n]? = some (.lst xs)) : EvL A E (dVar i) xs := fun S hS => ⟨n, [], by rw [List.append_nil]; unfold dVar; rw [h], by rw [List.append_nil]; exact pre_at hS hn⟩
theorem EvL.add (ha : EvL A E ma xs) (hb : EvL A E mb ys) (hl : xs.length + ys.length ≤ sizeLine) : EvL A E (dBin vAdd ma mb) (xs ++ ys) := fun S hS => by
  obtain ⟨n1, g1, e1, h1⟩ := ha S hS
  obtain ⟨n2, g2, e2, h2⟩ := hb _ (pre_ext hS g1)
  refine ⟨(S ++ g1 ++ g2).length, g1 ++ g2 ++ [.lst (xs ++ ys)], ?_, ?_⟩
  · rw [e_Bin, e1, Dn.R.bind_ok, e2, Dn.R.bind_ok]
    unfold vAdd
    dsimp only
    unfold catLst
    rw [atA h1, h2]
    dsimp only
    rw [if_pos hl]
    unfold Dn.alloc
    simp
  · have e : S ++ (g1 ++ g2 ++ [.lst (xs ++ ys)]) = (S ++ g1 ++ g2) ++ [Cell.lst (xs ++ ys)] := by simp
    rw [e]
    exact at0
theorem Ev.tupleL (h : EvL A E m xs) : Ev A E (dCall bTuple (aCons m aNil)) (.tup xs) := Ev.callL h fun _ _ hn => tuple_at hn
theorem Ev.len (h : Ev A E m (.tup xs)) : Ev A E (dCall bLen (aCons m aNil)) (.int xs.length) := Ev.call (.cons h .nil) len_tup
theorem recv_at {n : Nat} (h : S[n]? = some (.lst xs)) : recv "list" (.ref n) S = true := by
  unfold recv
  dsimp only
  rw [h]
  rfl
/-- an item put behind the list that stands behind B -/
theorem app_ok {i : Nat} {q : Store} (h : E[i]? = some (some (.ref B.length))) (hl : ys.length < sizeLine) (he : Ev (B ++ .lst ys :: q) E m x) : ∃ q', dDrop (dMeth "list" mAppend (dVar i) (aCons m aNil)) E (B ++ .lst ys :: q) = .nx E (B ++ .lst (ys ++ [x]) :: q') := by
  obtain ⟨g, e⟩ := he _ (List.prefix_refl _)
  refine ⟨q ++ g, ?_⟩
  have hv : ∀ S, dVar i E S = .ok (.ref B.length) S := fun S => by unfold dVar; rw [h]
  rw [e_drop, e_meth, hv, Dn.R.bind_ok, recv_at at0, if_pos rfl, e_acons, e, Dn.R.bind_ok, e_anil, Dn.R.bind_ok, Dn.R.bind_ok]
  unfold mAppend
  dsimp only
  rw [atA at0]
  dsimp only
  rw [if_pos hl, R.toS_ok, setA (by simp), st0]
  simp
/-! a loop that builds the list behind B -/
def EvT (A : Store) (E : Dn.Env) (m : DI) (xs : List D) : Prop := ∀ S, A <+: S → ∃ g, m E S = .ok (xs, fun _ => true) (S ++ g)
theorem EvT.tup (h : Ev A E m (.tup xs)) : EvT A E (iVal m) xs := fun S hS => by
  obtain ⟨g, e⟩ := h S hS
  exact ⟨g, by unfold iVal; rw [e, Dn.R.bind_ok]; rfl⟩
theorem EvT.range {k : Nat} (h : Ev A E m (.int (k : Nat))) (hk : k ≤ 1000000) : EvT A E (iRange1 (aCons m aNil)) (rngD 0 k) := fun S hS => by
  obtain ⟨g, e⟩ := h S hS
  refine ⟨g, ?_⟩
  have e1 : aCons m aNil E S = .ok [.int (k : Nat)] (S ++ g) := by simp [e]
  unfold iRange1
  rw [e1, Dn.R.bind_ok]
  dsimp only
  rw [if_pos (small_nat hk)]
theorem forB {it : DI} {g : DG} {body : DS} {q : Store} (R : Nat → List D) (Inv : Dn.Env → Prop) (hi : EvT (B ++ .lst (R 0) :: q) E it xs) (h0 : Inv E)
    (step : ∀ i x E q, xs[i]? = some x → Inv E → ∃ E1 E2 q', (∀ S, g x E S = .ok E1 S) ∧ body E1 (B ++ .lst (R i) :: q) = .nx E2 (B ++ .lst (R (i + 1)) :: q') ∧ Inv E2) :
    ∃ E' q', dFor it g body E (B ++ .lst (R 0) :: q) = .nx E' (B ++ .lst (R xs.length) :: q') ∧ Inv E' := by
  obtain ⟨g1, e1⟩ := hi _ (List.prefix_refl _)
  obtain ⟨env', st', e2, h1, q', h2⟩ := forL_run (chk := fun _ => true) (g := g) (m := body) (fun i env st => Inv env ∧ ∃ q, st = B ++ .lst (R i) :: q) (fun _ _ _ _ => rfl) (xs := xs) (i0 := 0) (env := E) (st := B ++ .lst (R 0) :: (q ++ g1)) ⟨h0, _, rfl⟩ (by
    rintro i x env st hx ⟨h1, q, rfl⟩
    rw [Nat.zero_add] at *
    obtain ⟨E1, E2, q', a, b, c⟩ := step i x env q hx h1
    exact ⟨_, _, _, _, a _, b, c, q', rfl⟩)
  rw [Nat.zero_add] at h2
  refine ⟨env', q', ?_, h1⟩
  rw [e_for, e1, Dn.R.toS_ok]
  have e : (B ++ .lst (R 0) :: q ++ g1 : Store) = B ++ .lst (R 0) :: (q ++ g1) := by simp
  rw [e, e2, h2]
theorem enum_get {i : Nat} (h : (enumD 0 xs)[i]? = some x) : ∃ y, xs[i]? = some y ∧ x = .tup [.int (i : Nat), y] := by
  rw [enumD_get] at h
  obtain ⟨y, h1, h2⟩ := Option.map_eq_some_iff.mp h
  exact ⟨y, h1, by rw [← h2, Nat.zero_add]⟩
theorem enum_len : ∀ (k : Nat) (xs : List D), (enumD k xs).length = xs.length
  | _, [] => rfl
  | k, x :: xs => by unfold enumD; rw [List.length_cons, enum_len (k + 1) xs, List.length_cons]
theorem map_get {α : Type} {h : α → D} {l : List α} {i : Nat} (e : (l.map h)[i]? = some x) : ∃ a, l[i]? = some a ∧ x = h a := by
  rw [List.getElem?_map] at e
  obtain ⟨a, h1, h2⟩ := Option.map_eq_some_iff.mp e
  exact ⟨a, h1, h2.symm⟩
theorem call1 {f : DF} {x : D} (h : ma E S = .ok x S) : dCall f (aCons ma aNil) E S = f [x] S := by
  rw [e_call, e_acons, h, Dn.R.bind_ok, e_anil, Dn.R.bind_ok, Dn.R.bind_ok]
/-! ### the gate of a law -/
end
end Pn
set_option Elab.async false
set_option linter.all false
set_option maxHeartbeats 1000000
set_option maxRecDepth 100000
namespace Pn
open PySem PySem.Spec L2 Dn
section
variable {A S B : Store} {E E' : Dn.Env} {m ma mb : DE} {xs ys vs : List D} {x y v : D}
theorem op_pow {i : Int} {k : Nat} (hk : k ≤ 1000000) (hi : i.natAbs < 2 ^ 64) : Op2 A vPow (.int i) (.int (k : Nat)) (.int (i ^ k)) := fun S hS => by
  unfold vPow
  dsimp only
  rw [if_pos ⟨by omega, by omega, hi⟩]
  rfl
/-! ### the box -/
end
end Pn
set_option Elab.async false
set_option linter.all false
set_option maxHeartbeats 1000000
set_option maxRecDepth 100000
namespace Pn
open PySem PySem.Spec L2 Dn
/-! ### beside -/
def bRow (many sides mine its : Nat) (row more : List (Nat × Nat)) : List (Nat × Nat) := row.map (fun p => (p.1, p.2 * many + its)) ++ more.map (fun p => (sides + p.1, mine * many + p.2))
def bRows (many sides : Nat) (one other : Gate) (i : Nat) : Gate := (List.range i).flatMap fun a => (List.range other.length).map fun b => bRow many sides a b (one.getD a []) (other.getD b [])
def besideG (many sides : Nat) (one other : Gate) : Gate := bRows many sides one other one.length
theorem bRows_succ (many sides : Nat) (one other : Gate) (i : Nat) : bRows many sides one other (i + 1) = bRows many sides one other i ++ (List.range other.length).map fun b => bRow many sides i b (one.getD i []) (other.getD b []) := by
  unfold bRows
  rw [List.range_succ, List.flatMap_append]
  simp
end Pn
set_option Elab.async false
set_option linter.all false
set_option maxHeartbeats 1000000
set_option maxRecDepth 100000
namespace Pn
open PySem PySem.Spec L2 Dn
/-! ### what beside is due -/
def dRow (many sides : Nat) (one other : Gate) (j : Nat) : List (Nat × Nat) := bRow many sides (j / many) (j % many) (one.getD (j / many) []) (other.getD (j % many) [])
theorem due_rows {many sides : Nat} {one other : Gate} (hl : other.length = many) (h0 : 0 < many) : ∀ i, (List.range (i * many)).map (dRow many sides one other) = bRows many sides one other i
  | 0 => by simp [bRows]
  | i + 1 => by
    rw [bRows_succ, ← due_rows hl h0 i, Nat.succ_mul, List.range_add, List.map_append, List.map_map, hl]
    congr 1
    apply List.map_congr_left
    intro b hb
    have hb := List.mem_range.mp hb
    have e1 : (i * many + b) / many = i := by rw [Nat.mul_comm, Nat.mul_add_div h0, Nat.div_eq_of_lt hb]; omega
    have e2 : (i * many + b) % many = b := by rw [Nat.mul_comm, Nat.mul_add_mod, Nat.mod_eq_of_lt hb]
    simp only [Function.comp_def, dRow, e1, e2]
noncomputable def FDue : DF := trimF (dDef 2 11 den__law_due)
def uEnv (one other : Gate) (many sides n : Nat) (x5 x6 x7 x8 x9 x10 : Option D) : Dn.Env := [some (gateD one), some (gateD other), some (.ref n), some (.int (many : Nat)), some (.int (sides : Nat)), x5, x6, x7, x8, x9, x10]
section
variable {B : Store} {s m s' m' : Nat} {one other : Gate}
theorem lt_sl {k : Nat} (h : k < 10000000) : k < sizeLine := by
  have q : sizeLine = 16777216 := sizeLine_eq
  omega
/-- a row of pairs put behind, each pair turned by f -/
theorem uFor {S q : Store} {E : Dn.Env} {it te : DE} {row acc : List (Nat × Nat)} (mk : Option D → Option D → Dn.Env) (f : Nat × Nat → Nat × Nat) (x9 x10 : Option D) (hE : E = mk x9 x10) (hr : ∀ A, Ev A E it (rowD row)) (hl : acc.length + row.length ≤ 1000000)
    (h8 : ∀ x9 x10, (mk x9 x10)[8]? = some (some (.ref S.length)))
    (hset : ∀ x9 x10 (p : Nat × Nat), ∀ T, gTp 2 (gsCons (gNm 9) (gsCons (gNm 10) gsNil)) (pairD p) (mk x9 x10) T = .ok (mk (some (.int (p.1 : Nat))) (some (.int (p.2 : Nat)))) T)
    (hte : ∀ A (p : Nat × Nat), Ev A (mk (some (.int (p.1 : Nat))) (some (.int (p.2 : Nat)))) te (pairD (f p))) :
    ∃ x9' x10' q', dFor (iVal it) (gTp 2 (gsCons (gNm 9) (gsCons (gNm 10) gsNil))) (dDrop (dMeth "list" mAppend (dVar 8) (aCons te aNil))) E (S ++ .lst (acc.map pairD) :: q) = .nx (mk x9' x10') (S ++ .lst ((acc ++ row.map f).map pairD) :: q') := by
  obtain ⟨E', q', e, x9', x10', hI⟩ := forB (B := S) (q := q) (xs := row.map pairD) (fun j => (acc ++ (row.take j).map f).map pairD) (fun E' => ∃ x9 x10, E' = mk x9 x10) (EvT.tup (hr _)) ⟨x9, x10, hE⟩ (g := gTp 2 (gsCons (gNm 9) (gsCons (gNm 10) gsNil))) (body := dDrop (dMeth "list" mAppend (dVar 8) (aCons te aNil))) (by
    rintro j x E q hx ⟨x9, x10, rfl⟩
    obtain ⟨p, hp, rfl⟩ := map_get hx
    have hj : j < row.length := (List.getElem?_eq_some_iff.mp hp).1
    obtain ⟨q', e⟩ := app_ok (B := S) (ys := (acc ++ (row.take j).map f).map pairD) (q := q) (i := 8) (h8 (some (.int (p.1 : Nat))) (some (.int (p.2 : Nat)))) (lt_sl (by rw [List.length_map, List.length_append, List.length_map, List.length_take]; omega)) (hte _ p)
    refine ⟨_, mk (some (.int (p.1 : Nat))) (some (.int (p.2 : Nat))), q', fun T => hset x9 x10 p T, ?_, _, _, rfl⟩
    rw [e, List.take_add_one, hp]
    simp)
  refine ⟨x9', x10', q', ?_⟩
  rw [List.take_zero, List.map_nil, List.append_nil, List.length_map, List.take_length] at e
  rw [e, hI]
theorem uBody_ok {q : Store} {rows : Gate} {j : Nat} {x6 x7 x8 x9 x10 : Option D} (h : Shape s m one) (h' : Shape s' m' other) (hj : j < m * m') (h4 : rows.length < 10000000) :
    ∃ x6' x7' x8' x9' x10' q', (dSeq (dPar [6, 7] (aCons (dBin vDiv (dVar 5) (dVar 3)) (aCons (dBin vSub (dVar 5) (dBin vMul (dBin vDiv (dVar 5) (dVar 3)) (dVar 3))) aNil))) (dSeq (dAsg (dLst aNil) (gNm 8)) (dSeq (dFor (iVal (dBin vIx (dVar 0) (dVar 6))) (gTp 2 (gsCons (gNm 9) (gsCons (gNm 10) gsNil))) (dDrop (dMeth "list" mAppend (dVar 8) (aCons (dTup (aCons (dVar 9) (aCons (dBin vAdd (dBin vMul (dVar 10) (dVar 3)) (dVar 7)) aNil))) aNil)))) (dSeq (dFor (iVal (dBin vIx (dVar 1) (dVar 7))) (gTp 2 (gsCons (gNm 9) (gsCons (gNm 10) gsNil))) (dDrop (dMeth "list" mAppend (dVar 8) (aCons (dTup (aCons (dBin vAdd (dVar 4) (dVar 9)) (aCons (dBin vAdd (dBin vMul (dVar 6) (dVar 3)) (dVar 10)) aNil))) aNil)))) (dDrop (dMeth "list" mAppend (dVar 2) (aCons (dCall bTuple (aCons (dVar 8) aNil)) aNil)))))))
      (uEnv one other m' s B.length (some (.int (j : Nat))) x6 x7 x8 x9 x10) (B ++ .lst (rows.map rowD) :: q) =
    .nx (uEnv one other m' s B.length (some (.int (j : Nat))) x6' x7' x8' x9' x10') (B ++ .lst ((rows ++ [dRow m' s one other j]).map rowD) :: q') := by
  have h0 := h'.m0
  have hm1' := h'.m1
  have hs1 := h.s1
  have hs1' := h'.s1
  have hm1 := h.m1
  have hl := h.len
  have hl' := h'.len
  obtain ⟨S, hS⟩ : ∃ S : Store, S = B ++ .lst (rows.map rowD) :: q := ⟨_, rfl⟩
  rw [← hS]
  have hdiv : j / m' < one.length := by rw [hl]; exact Nat.div_lt_of_lt_mul (by rw [Nat.mul_comm]; exact hj)
  have hmod : j % m' < other.length := by rw [hl']; exact Nat.mod_lt _ h0
  have hd : ((j : Int) / (m' : Int)) = ((j / m' : Nat) : Int) := rfl
  have hm : (j : Int) - ((j / m' : Nat) : Int) * (m' : Int) = ((j % m' : Nat) : Int) := by
    have e := Nat.div_add_mod j m'
    have e2 : ((m' * (j / m') + j % m' : Nat) : Int) = (j : Int) := by rw [e]
    rw [Int.natCast_add, Int.natCast_mul, Int.mul_comm] at e2
    omega
  have p1 : dPar [6, 7] (aCons (dBin vDiv (dVar 5) (dVar 3)) (aCons (dBin vSub (dVar 5) (dBin vMul (dBin vDiv (dVar 5) (dVar 3)) (dVar 3))) aNil)) (uEnv one other m' s B.length (some (.int (j : Nat))) x6 x7 x8 x9 x10) S = .nx (uEnv one other m' s B.length (some (.int (j : Nat))) (some (.int ((j / m' : Nat) : Int))) (some (.int ((j % m' : Nat) : Int))) x8 x9 x10) S := by
    have v5 : dVar 5 (uEnv one other m' s B.length (some (.int (j : Nat))) x6 x7 x8 x9 x10) S = .ok (.int (j : Nat)) S := rfl
    have v3 : dVar 3 (uEnv one other m' s B.length (some (.int (j : Nat))) x6 x7 x8 x9 x10) S = .ok (.int (m' : Nat)) S := rfl
    have dv : vDiv (.int (j : Nat)) (.int (m' : Nat)) S = .ok (.int ((j / m' : Nat) : Int)) S := by rw [e_div (by omega) (by omega), hd]
    unfold dPar
    rw [e_acons, e_Bin, v5, Dn.R.bind_ok, v3, Dn.R.bind_ok, dv, Dn.R.bind_ok, e_acons, e_Bin, v5, Dn.R.bind_ok, e_Bin, e_Bin, v5, Dn.R.bind_ok, v3, Dn.R.bind_ok, dv, Dn.R.bind_ok, v3, Dn.R.bind_ok, e_mulR (small_of (by omega)), Dn.R.bind_ok, e_sub, hm, Dn.R.bind_ok, e_anil, Dn.R.bind_ok, Dn.R.bind_ok, R.toS_ok]
    rfl
  have p2 : dAsg (dLst aNil) (gNm 8) (uEnv one other m' s B.length (some (.int (j : Nat))) (some (.int ((j / m' : Nat) : Int))) (some (.int ((j % m' : Nat) : Int))) x8 x9 x10) S = .nx (uEnv one other m' s B.length (some (.int (j : Nat))) (some (.int ((j / m' : Nat) : Int))) (some (.int ((j % m' : Nat) : Int))) (some (.ref S.length)) x9 x10) (S ++ [.lst []]) := by
    rw [e_asg, e_lst, e_anil, Dn.R.bind_ok, mkLst_nil, R.toS_ok]
    rfl
  obtain ⟨r1, hr1⟩ : ∃ r, one[j / m']? = some r := ⟨_, List.getElem?_eq_getElem hdiv⟩
  obtain ⟨r2, hr2⟩ : ∃ r, other[j % m']? = some r := ⟨_, List.getElem?_eq_getElem hmod⟩
  have hl1 := h.rows r1 (List.mem_of_getElem? hr1)
  have hl2 := h'.rows r2 (List.mem_of_getElem? hr2)
  obtain ⟨x9a, x10a, q1, p3⟩ := uFor (S := S) (q := []) (acc := []) (row := r1) (it := dBin vIx (dVar 0) (dVar 6)) (te := (dTup (aCons (dVar 9) (aCons (dBin vAdd (dBin vMul (dVar 10) (dVar 3)) (dVar 7)) aNil)))) (fun x9 x10 => uEnv one other m' s B.length (some (.int (j : Nat))) (some (.int ((j / m' : Nat) : Int))) (some (.int ((j % m' : Nat) : Int))) (some (.ref S.length)) x9 x10) (fun p => (p.1, p.2 * m' + j % m')) x9 x10 rfl
    (fun A => Ev.bin (.var (v := gateD one) rfl) (.var rfl) (op_ixT (ixN_nat (by rw [List.length_map]; exact hdiv)) (by rw [List.getElem?_map, hr1]; rfl))) (by simp; omega) (fun _ _ => rfl) (fun _ _ _ _ => rfl)
    (fun A p => Ev.tup2 (.var rfl) (.bin (.bin (.var rfl) (.var rfl) (op_mulR (small_of (by omega)))) (.var rfl) op_add))
  obtain ⟨x9b, x10b, q2, p4⟩ := uFor (S := S) (q := q1) (acc := [] ++ r1.map fun p => (p.1, p.2 * m' + j % m')) (row := r2) (it := dBin vIx (dVar 1) (dVar 7)) (te := (dTup (aCons (dBin vAdd (dVar 4) (dVar 9)) (aCons (dBin vAdd (dBin vMul (dVar 6) (dVar 3)) (dVar 10)) aNil)))) (fun x9 x10 => uEnv one other m' s B.length (some (.int (j : Nat))) (some (.int ((j / m' : Nat) : Int))) (some (.int ((j % m' : Nat) : Int))) (some (.ref S.length)) x9 x10) (fun p => (s + p.1, j / m' * m' + p.2)) x9a x10a rfl
    (fun A => Ev.bin (.var (v := gateD other) rfl) (.var rfl) (op_ixT (ixN_nat (by rw [List.length_map]; exact hmod)) (by rw [List.getElem?_map, hr2]; rfl))) (by simp; omega) (fun _ _ => rfl) (fun _ _ _ _ => rfl)
    (fun A p => Ev.tup2 (.bin (.var rfl) (.var rfl) op_add) (.bin (.bin (.var rfl) (.var rfl) (op_mulR (small_of (by omega)))) (.var rfl) op_add))
  have hrow : ([] ++ r1.map fun p => (p.1, p.2 * m' + j % m')) ++ r2.map (fun p => (s + p.1, j / m' * m' + p.2)) = dRow m' s one other j := by
    unfold dRow bRow
    rw [List.getD_eq_getElem?_getD, List.getD_eq_getElem?_getD, hr1, hr2]
    rfl
  rw [hrow] at p4
  have eS : (S ++ .lst ((dRow m' s one other j).map pairD) :: q2 : Store) = B ++ .lst (rows.map rowD) :: (q ++ .lst ((dRow m' s one other j).map pairD) :: q2) := by rw [hS]; simp
  have T : Ev (B ++ .lst (rows.map rowD) :: (q ++ .lst ((dRow m' s one other j).map pairD) :: q2)) (uEnv one other m' s B.length (some (.int (j : Nat))) (some (.int ((j / m' : Nat) : Int))) (some (.int ((j % m' : Nat) : Int))) (some (.ref S.length)) x9b x10b) (dCall bTuple (aCons (dVar 8) aNil)) (rowD (dRow m' s one other j)) := Ev.tupleL (EvL.var (i := 8) (n := S.length) rfl (by rw [← eS]; exact at0))
  obtain ⟨q3, p5⟩ := app_ok (i := 2) rfl (lt_sl (by rw [List.length_map]; omega)) T
  rw [← eS] at p5
  refine ⟨some (.int ((j / m' : Nat) : Int)), some (.int ((j % m' : Nat) : Int)), some (.ref S.length), x9b, x10b, q3, (dSeq_nx p1).trans ((dSeq_nx p2).trans ((dSeq_nx p3).trans ((dSeq_nx p4).trans (p5.trans ?_))))⟩
  rw [List.map_append]
  rfl
theorem due_ok {A : Store} (h : Shape s m one) (h' : Shape s' m' other) : OpF A FDue [gateD one, gateD other] (gateD (besideG m' s one other)) := by
  intro B hB
  have hm0' := h'.m0
  have hm1 := h.m1
  have hm1' := h'.m1
  have hl := h.len
  have hl' := h'.len
  have hm := h.m0
  obtain ⟨r0, hr0⟩ : ∃ r, one[0]? = some r := ⟨one[0]'(by omega), List.getElem?_eq_getElem _⟩
  have hr0l := h.rows r0 (List.mem_of_getElem? hr0)
  have p1 : dPar [2, 3, 4] (aCons (dLst aNil) (aCons (dCall bLen (aCons (dVar 1) aNil)) (aCons (dCall bLen (aCons (dBin vIx (dVar 0) (dC (.int 0))) aNil)) aNil))) [some (gateD one), some (gateD other), none, none, none, none, none, none, none, none, none] B = .nx (uEnv one other m' s B.length none none none none none none) (B ++ [.lst []]) := by
    have ix : vIx (gateD one) (.int 0) (B ++ [.lst []]) = .ok (rowD r0) (B ++ [.lst []]) := e_ixT (j := 0) (ixN_nat (i := 0) (by rw [List.length_map]; omega)) (by rw [List.getElem?_map, hr0]; rfl)
    have l1 : bLen [gateD other] (B ++ [.lst []]) = .ok (.int (m' : Nat)) (B ++ [.lst []]) := by
      have e := len_tup (A := []) (xs := other.map rowD) (B ++ [.lst []]) (List.nil_prefix)
      rw [List.length_map, hl'] at e
      exact e
    have l2 : bLen [rowD r0] (B ++ [.lst []]) = .ok (.int (s : Nat)) (B ++ [.lst []]) := by
      have e := len_tup (A := []) (xs := r0.map pairD) (B ++ [.lst []]) (List.nil_prefix)
      rw [List.length_map, hr0l] at e
      exact e
    unfold dPar
    rw [e_acons, e_lst, e_anil, Dn.R.bind_ok, mkLst_nil, Dn.R.bind_ok, e_acons, call1 (x := gateD other) rfl, l1, Dn.R.bind_ok, e_acons, call1 (x := rowD r0) (by rw [e_Bin, e_V0, Dn.R.bind_ok, e_C, Dn.R.bind_ok, ix]), l2, Dn.R.bind_ok, e_anil, Dn.R.bind_ok, Dn.R.bind_ok, Dn.R.bind_ok, R.toS_ok]
    rfl
  have hmul : m * m' ≤ 1000 * 1000 := Nat.mul_le_mul hm1 hm1'
  have rg : Ev (B ++ .lst [] :: []) (uEnv one other m' s B.length none none none none none none) (dBin vMul (dCall bLen (aCons (dVar 0) aNil)) (dVar 3)) (.int ((m * m' : Nat) : Int)) := by
    have e := Ev.bin (Ev.len (A := B ++ .lst [] :: []) (E := uEnv one other m' s B.length none none none none none none) (xs := one.map rowD) (.var (i := 0) rfl)) (.var (i := 3) (v := .int (m' : Nat)) rfl) (op_mulR (small_of (by omega)))
    rw [List.length_map, hl] at e
    exact e
  obtain ⟨E', q', e, x5, x6, x7, x8, x9, x10, hI⟩ := forB (B := B) (q := []) (xs := rngD 0 ((m * m' : Nat) : Int)) (fun i => ((List.range i).map (dRow m' s one other)).map rowD) (fun E' => ∃ x5 x6 x7 x8 x9 x10, E' = uEnv one other m' s B.length x5 x6 x7 x8 x9 x10) (EvT.range rg (by omega)) ⟨_, _, _, _, _, _, rfl⟩ (g := gNm 5) (by
    rintro i x E q hx ⟨x5, x6, x7, x8, x9, x10, rfl⟩
    obtain ⟨hi, rfl⟩ := rng_get hx
    obtain ⟨x6', x7', x8', x9', x10', q', e⟩ := uBody_ok (B := B) (q := q) (rows := (List.range i).map (dRow m' s one other)) (j := i) (x6 := x6) (x7 := x7) (x8 := x8) (x9 := x9) (x10 := x10) h h' hi (by rw [List.length_map, List.length_range]; omega)
    refine ⟨_, uEnv one other m' s B.length (some (.int (i : Nat))) x6' x7' x8' x9' x10', q', fun _ => rfl, ?_, some (.int (i : Nat)), x6', x7', x8', x9', x10', rfl⟩
    rw [List.range_succ, List.map_append (l₁ := List.range i), List.map_singleton (a := i)]
    exact e)
  rw [rng_len, due_rows hl' hm0'] at e
  obtain ⟨g, e4⟩ := EvR.ret (Ev.tupleL (EvL.var (A := B ++ .lst ((bRows m' s one other m).map rowD) :: q') (E := E') (i := 2) (n := B.length) (by rw [hI]; rfl) at0)) _ (List.prefix_refl _)
  refine trimF_pure (g := .lst ((bRows m' s one other m).map rowD) :: (q' ++ g)) (dDef_rt rfl rfl ((dSeq_nx p1).trans ((dSeq_nx e).trans (e4.trans ?_)))) (gate_lt _ _)
  simp [gateD, besideG, hl]
end
end Pn
set_option Elab.async false
set_option linter.all false
set_option maxHeartbeats 1000000
set_option maxRecDepth 100000
namespace Pn
open PySem PySem.Spec L2 Dn
/-! ### alike -/
/-- numbers, texts and tuples of them, no deeper than k -/
inductive Da : Nat → D → Prop
  | int {k : Nat} (i : Int) : Da k (.int i)
  | str {k : Nat} {z : Str} (h : Ok 0 (.str z)) : Da k (.str z)
  | bl {k : Nat} (b : Bool) : Da k (.bl b)
  | non {k : Nat} : Da k .non
  | tup {k : Nat} {xs : List D} (h : ∀ x ∈ xs, Da k x) : Da (k + 1) (.tup xs)
theorem Da.up {k : Nat} {d : D} (h : Da k d) : Da (k + 1) d := by
  induction h with
  | int i => exact .int i
  | str h => exact .str h
  | bl b => exact .bl b
  | non => exact .non
  | tup h ih => exact .tup ih
theorem pyWs_of {rf : Nat → Option PyData} {k : Nat} : ∀ {xs : List D}, (∀ x ∈ xs, ∃ p, pyW rf x = some p ∧ Ok k p) → ∃ ps, pyWs rf xs = some ps ∧ ps.length = xs.length ∧ ∀ p ∈ ps, Ok k p
  | [], _ => ⟨[], rfl, rfl, fun p h => by cases h⟩
  | x :: xs, h => by
    obtain ⟨p, h1, h2⟩ := h x (List.mem_cons_self ..)
    obtain ⟨ps, h3, h4, h5⟩ := pyWs_of fun y hy => h y (List.mem_cons_of_mem _ hy)
    refine ⟨p :: ps, by simp [pyWs, h1, h3], by simp [h4], fun q hq => ?_⟩
    rcases List.mem_cons.mp hq with rfl | hq
    · exact h2
    · exact h5 q hq
theorem Da.py {rf : Nat → Option PyData} {k : Nat} {d : D} (h : Da k d) : ∃ p, pyW rf d = some p ∧ Ok k p := by
  induction h with
  | int i => exact ⟨_, rfl, (Ok.int i).mono (Nat.zero_le _)⟩
  | str h => exact ⟨_, rfl, h.mono (Nat.zero_le _)⟩
  | bl b => exact ⟨_, rfl, (Ok.bool b).mono (Nat.zero_le _)⟩
  | non => exact ⟨_, rfl, Ok.none.mono (Nat.zero_le _)⟩
  | tup h ih =>
    obtain ⟨ps, h1, _, h3⟩ := pyWs_of ih
    exact ⟨.tuple ps, by simp [pyW, h1], .tup h3⟩
mutual
def wt : D → Nat
  | .tup xs => 1 + wts xs
  | .non => 1
  | .bl _ => 1
  | .int _ => 1
  | .str _ => 1
  | .ref _ => 1
  | .err _ _ => 1
  | .ty _ => 1
  | .cl _ => 1
  | .scr _ => 1
def wts : List D → Nat
  | [] => 0
  | x :: xs => wt x + wts xs
end
theorem wt_pos (d : D) : 0 < wt d := by cases d <;> simp [wt] <;> omega
theorem wts_app : ∀ xs ys : List D, wts (xs ++ ys) = wts xs + wts ys
  | [], ys => by simp [wts]
  | x :: xs, ys => by simp [wts, wts_app xs ys]; omega
theorem wts_len : ∀ xs : List D, xs.length ≤ wts xs
  | [] => Nat.le_refl _
  | x :: xs => by have := wt_pos x; have := wts_len xs; simp [wts]; omega
def dup (x : D) : D := .tup [x, x]
theorem zip_dup : ∀ xs : List D, zipD xs xs = xs.map dup
  | [] => rfl
  | x :: xs => by rw [zipD, zip_dup xs]; rfl
theorem ne_nilD {S : Store} {n n' k : Nat} {xs : List D} (h : S[n]? = some (.lst xs)) (h' : S[n']? = some (.lst [])) (hx : ∀ x ∈ xs, Da k x) (hk : k < 60) : vNe (.ref n) (.ref n') S = .ok (.bl (!xs.isEmpty)) S := by
  obtain ⟨ps, h1, h2, h3⟩ := pyWs_of (rf := pyN S 2) fun x hm => (hx x hm).py
  rw [vNe_of (toPy_lst h h1) (toPy_lst h' (show pyWs (pyN S 2) [] = some [] from rfl)) ((Ok.lst h3).shaped (by omega)) ((Ok.lst (k := 0) (fun p hp => by cases hp)).shaped (by omega))]
  cases xs with
  | nil => cases ps with
    | nil => rfl
    | cons => simp at h2
  | cons x xs => cases ps with
    | nil => simp at h2
    | cons p ps => rfl
theorem ne_self {k : Nat} {d : D} {p : PyData} {S : Store} (h : toPy S d = some p) (ho : Ok k p) (hk : k ≤ 64) : vNe d d S = .ok (.bl false) S := by
  rw [vNe_of h h (ho.shaped hk) (ho.shaped hk), PySem.SeqAt.eqv_refl p ho.1]
  rfl
theorem op_neS {k : Nat} {d : D} {A : Store} (h : Da k d) (hk : k ≤ 64) : Op2 A vNe d d (.bl false) := fun S _ => by
  obtain ⟨p, h1, h2⟩ := h.py (rf := pyN S 3)
  exact ne_self h1 h2 hk
theorem op_neB {b : Bool} {A : Store} : Op2 A vNe (.bl b) (.bl b) (.bl false) := fun S _ => ne_self (p := .bool b) rfl (.bool b) (by decide)
end Pn
set_option Elab.async false
set_option linter.all false
set_option maxHeartbeats 1000000
set_option maxRecDepth 100000
namespace Pn
open PySem PySem.Spec L2 Dn
/-! ### dicts whose keys are pairs -/
def pk (p : Nat × Nat) : List Key := [.inl (p.1 : Nat), .inl (p.2 : Nat)]
theorem pk_inj {p q : Nat × Nat} (h : pk p = pk q) : p = q := by
  simp only [pk, List.cons.injEq, Sum.inl.injEq, Int.natCast_inj, and_true] at h
  exact Prod.ext h.1 h.2
def keyed (f : Nat × Nat → D) (ps : List (Nat × Nat)) : List (List Key × D) := ps.map fun p => (pk p, f p)
theorem keyed_len (f : Nat × Nat → D) (ps : List (Nat × Nat)) : (keyed f ps).length = ps.length := by simp [keyed]
theorem keyed_app (f : Nat × Nat → D) (ps qs : List (Nat × Nat)) : keyed f (ps ++ qs) = keyed f ps ++ keyed f qs := by simp [keyed]
theorem valD_none {f : Nat × Nat → D} {ps : List (Nat × Nat)} {p : Nat × Nat} (h : p ∉ ps) : valD (keyed f ps) (pk p) = none := by
  unfold valD keyed
  rw [List.find?_eq_none.mpr]
  · rfl
  · intro x hx
    obtain ⟨q, hq, rfl⟩ := List.mem_map.mp hx
    simp only [decide_eq_true_eq]
    intro e
    exact h (pk_inj e ▸ hq)
theorem putD_new {f : Nat × Nat → D} {ps : List (Nat × Nat)} {p : Nat × Nat} (h : p ∉ ps) : putD (keyed f ps) (pk p) (f p) = keyed f (ps ++ [p]) := by
  unfold putD
  rw [if_neg, keyed_app]
  · rfl
  · rw [Bool.not_eq_true, List.any_eq_false]
    intro x hx
    obtain ⟨q, hq, rfl⟩ := List.mem_map.mp hx
    simp only [decide_eq_true_eq]
    intro e
    exact h (pk_inj e ▸ hq)
section
variable {A S B : Store} {E E' : Dn.Env} {m ma mb : DE} {xs ys vs : List D} {x y v : D}
theorem lcN_map {α : Type} {g : DG} {te : DE} {env : Dn.Env} {h : α → D} {f : α → D} : ∀ {l : List α} {acc : List D} {q : Store}, acc.length + l.length ≤ sizeLine → (∀ x ∈ l, ∃ E', (∀ T, g (h x) env T = .ok E' T) ∧ Ev S E' te (f x)) → ∃ q', lcN S.length (fun _ => true) g dYes te env (l.map h) (S ++ .lst acc :: q) = .ok () (S ++ .lst (acc ++ l.map f) :: q')
  | [], acc, q, _, _ => ⟨q, by simp [lcN]⟩
  | x :: l, acc, q, hl, hs => by
    obtain ⟨E', h1, h2⟩ := hs x (List.mem_cons_self ..)
    obtain ⟨g2, e2⟩ := h2 (S ++ .lst acc :: q) (List.prefix_append ..)
    obtain ⟨q', e3⟩ := lcN_map (g := g) (te := te) (env := env) (h := h) (f := f) (l := l) (acc := acc ++ [f x]) (q := q ++ g2) (by simp at hl ⊢; omega) fun y hy => hs y (List.mem_cons_of_mem _ hy)
    refine ⟨q', ?_⟩
    have e4 : push1 S.length (f x) (S ++ .lst acc :: q ++ g2) = .ok () (S ++ .lst (acc ++ [f x]) :: (q ++ g2)) := by
      unfold push1
      rw [atA at0]
      dsimp only
      rw [if_pos (by simp at hl; omega), setA (by simp), st0]
      simp
    rw [List.map_cons]
    unfold lcN
    rw [if_pos rfl, h1, R.must_ok]
    show (R.ok true _).must _ = _
    rw [R.must_ok, if_pos rfl, e2, R.must_ok, e4, R.must_ok, e3]
    simp
theorem lc2_map {α β : Type} {g g1 : DG} {te : DE} {it1 : DI} {ws1 : List Nat} {env : Dn.Env} {h : β → D} {h1 : α → D} {f : α → D} {r : β → List α} : ∀ {l : List β} {acc : List D} {q : Store}, acc.length + (l.flatMap r).length ≤ sizeLine →
    (∀ x ∈ l, ∃ E1, (∀ T, g (h x) env T = .ok E1 T) ∧ (∀ T, it1 E1 T = .ok ((r x).map h1, fun _ => true) T) ∧ ∀ y ∈ r x, ∃ E2, (∀ T, g1 (h1 y) (dWipe E1 ws1) T = .ok E2 T) ∧ Ev S E2 te (f y)) →
    ∃ q', lc2N S.length (fun _ => true) g dYes it1 g1 dYes te ws1 env (l.map h) (S ++ .lst acc :: q) = .ok () (S ++ .lst (acc ++ (l.flatMap r).map f) :: q')
  | [], acc, q, _, _ => ⟨q, by simp [lc2N]⟩
  | x :: l, acc, q, hl, hs => by
    obtain ⟨E1, k1, k2, k3⟩ := hs x (List.mem_cons_self ..)
    rw [List.flatMap_cons, List.length_append] at hl
    obtain ⟨q2, e2⟩ := lcN_map (S := S) (g := g1) (te := te) (env := dWipe E1 ws1) (h := h1) (f := f) (l := r x) (acc := acc) (q := q) (by omega) k3
    obtain ⟨q', e3⟩ := lc2_map (g := g) (g1 := g1) (te := te) (it1 := it1) (ws1 := ws1) (env := env) (h := h) (h1 := h1) (f := f) (r := r) (l := l) (acc := acc ++ (r x).map f) (q := q2) (by rw [List.length_append, List.length_map]; omega) fun y hy => hs y (List.mem_cons_of_mem _ hy)
    refine ⟨q', ?_⟩
    rw [List.map_cons]
    unfold lc2N
    rw [if_pos rfl, k1, R.must_ok]
    show (R.ok true _).must _ = _
    rw [R.must_ok, if_pos rfl, k2, R.must_ok]
    dsimp only
    rw [e2, R.must_ok, e3, List.flatMap_cons, List.map_append, List.append_assoc]
/-! ### look_gate -/
noncomputable def FLook : DF := trimF (dDef 1 7 (den_look_gate FForm))
def kEnv (g : Gate) (n : Nat) (x2 x3 x4 x5 x6 : Option D) : Dn.Env := [some (gateD g), some (.ref n), x2, x3, x4, x5, x6]
def lBody : DS := (dSeq (dIf (dTNot (dTest (dChain vLe vLt (dC (.int 0)) (dVar 3) (dCall bLen (aCons (dBin vIx (dVar 0) (dC (.int 0))) aNil))))) dBad dNext) (dSeq (dIf (dTNot (dTest (dChain vLe vLt (dC (.int 0)) (dVar 4) (dCall bLen (aCons (dVar 0) aNil))))) dBad dNext) (dSeq (dIf (dTest (dBin (vIn false) (dTup (aCons (dVar 3) (aCons (dVar 4) aNil))) (dVar 1))) dBad dNext) (dAsg (dC (.bl true)) (gSb (dVar 1) (dTup (aCons (dVar 3) (aCons (dVar 4) aNil))))))))
theorem lBody_ok {s m : Nat} {g : Gate} {ps : List (Nat × Nat)} {p : Nat × Nat} {x2 x5 x6 : Option D} {q : Store} (h : Shape s m g) (h1 : p.1 < s) (h2 : p.2 < m) (hp : p ∉ ps) (hl : ps.length < 10000000) :
    ∃ g', lBody (kEnv g B.length x2 (some (.int (p.1 : Nat))) (some (.int (p.2 : Nat))) x5 x6) (B ++ .dT (keyed (fun _ => .bl true) ps) :: q) = .nx (kEnv g B.length x2 (some (.int (p.1 : Nat))) (some (.int (p.2 : Nat))) x5 x6) (B ++ .dT (keyed (fun _ => .bl true) (ps ++ [p])) :: (q ++ g')) := by
  have hm := h.m0
  have hlg := h.len
  obtain ⟨r0, hr0⟩ : ∃ r, g[0]? = some r := ⟨g[0]'(by omega), List.getElem?_eq_getElem _⟩
  have hr0l := h.rows r0 (List.mem_of_getElem? hr0)
  obtain ⟨S, hS⟩ : ∃ S : Store, S = B ++ .dT (keyed (fun _ => .bl true) ps) :: q := ⟨_, rfl⟩
  have hSn : S[B.length]? = some (.dT (keyed (fun _ => .bl true) ps)) := by rw [hS]; exact at0
  obtain ⟨E, hE⟩ : ∃ E, E = kEnv g B.length x2 (some (.int (p.1 : Nat))) (some (.int (p.2 : Nat))) x5 x6 := ⟨_, rfl⟩
  rw [← hE]
  have w0 : E[0]? = some (some (gateD g)) := by rw [hE]; rfl
  have w1 : E[1]? = some (some (.ref B.length)) := by rw [hE]; rfl
  have w3 : E[3]? = some (some (.int (p.1 : Nat))) := by rw [hE]; rfl
  have w4 : E[4]? = some (some (.int (p.2 : Nat))) := by rw [hE]; rfl
  have l1 : Ev S E (dCall bLen (aCons (dBin vIx (dVar 0) (dC (.int 0))) aNil)) (.int (s : Nat)) := by
    have e := Ev.len (A := S) (E := E) (xs := r0.map pairD) (Ev.bin (.var w0) (.c (.int 0)) (op_ixT (j := 0) (ixN_nat (i := 0) (by rw [List.length_map]; omega)) (by rw [List.getElem?_map, hr0]; rfl)))
    rw [List.length_map, hr0l] at e
    exact e
  have l2 : Ev S E (dCall bLen (aCons (dVar 0) aNil)) (.int (m : Nat)) := by
    have e := Ev.len (A := S) (E := E) (xs := g.map rowD) (.var w0)
    rw [List.length_map, hlg] at e
    exact e
  have c1 : ∀ {a : Nat}, Op2 S vLe (.int 0) (.int (a : Nat)) (.bl true) := fun {a} T _ => by
    show R.ok (D.bl (decide ((0 : Int) ≤ (a : Int)))) T = _
    rw [decide_eq_true (by omega)]
  have c2 : ∀ {a b : Nat}, a < b → Op2 S vLt (.int (a : Nat)) (.int (b : Nat)) (.bl true) := fun {a b} hab T _ => by
    show R.ok (D.bl (decide ((a : Int) < (b : Int)))) T = _
    rw [decide_eq_true (by omega)]
  have inn : Op2 S (vIn false) (.tup [.int (p.1 : Nat), .int (p.2 : Nat)]) (.ref B.length) (.bl false) := fun T hT => by
    have e : look (.dT (keyed (fun _ => .bl true) ps)) (.tup [.int (p.1 : Nat), .int (p.2 : Nat)]) = some none := by
      show (some (pk p)).map (valD (keyed (fun _ => D.bl true) ps)) = _
      rw [Option.map_some, valD_none hp]
    unfold vIn
    dsimp only
    rw [pre_at hT hSn]
    dsimp only
    rw [e]
    rfl
  have i1 : EvN S E (dIf (dTNot (dTest (dChain vLe vLt (dC (.int 0)) (dVar 3) (dCall bLen (aCons (dBin vIx (dVar 0) (dC (.int 0))) aNil))))) dBad dNext) E := EvN.ifF (EvB.not (b := true) (EvB.test (Ev.chain (.c _) (.var w3) c1 l1 (c2 h1)))) .next
  have i2 : EvN S E (dIf (dTNot (dTest (dChain vLe vLt (dC (.int 0)) (dVar 4) (dCall bLen (aCons (dVar 0) aNil))))) dBad dNext) E := EvN.ifF (EvB.not (b := true) (EvB.test (Ev.chain (.c _) (.var w4) c1 l2 (c2 h2)))) .next
  have i3 : EvN S E (dIf (dTest (dBin (vIn false) (dTup (aCons (dVar 3) (aCons (dVar 4) aNil))) (dVar 1))) dBad dNext) E := EvN.ifF (EvB.test (Ev.bin (Ev.tup2 (.var w3) (.var w4)) (.var w1) inn)) .next
  obtain ⟨g1, e1⟩ := i1 S (List.prefix_refl _)
  obtain ⟨g2, e2⟩ := i2 _ (pre_ext (List.prefix_refl _) g1)
  obtain ⟨g3, e3⟩ := i3 _ (pre_ext (pre_ext (List.prefix_refl _) g1) g2)
  have eT : S ++ g1 ++ g2 ++ g3 = B ++ .dT (keyed (fun _ => .bl true) ps) :: (q ++ (g1 ++ g2 ++ g3)) := by rw [hS]; simp
  rw [eT] at e3
  generalize g1 ++ g2 ++ g3 = g4 at e3
  refine ⟨g4, ?_⟩
  rw [← hS]
  unfold lBody
  refine (dSeq_nx e1).trans ((dSeq_nx e2).trans ((dSeq_nx e3).trans ?_))
  have v1 : ∀ T, dVar 1 E T = .ok (.ref B.length) T := fun T => by unfold dVar; rw [w1]
  have t : ∀ T, dTup (aCons (dVar 3) (aCons (dVar 4) aNil)) E T = .ok (.tup [.int (p.1 : Nat), .int (p.2 : Nat)]) T := fun T => by rw [hE]; rfl
  have st : vSet (.ref B.length) (.tup [.int (p.1 : Nat), .int (p.2 : Nat)]) (.bl true) (B ++ .dT (keyed (fun _ => .bl true) ps) :: (q ++ g4)) = .ok () (B ++ .dT (keyed (fun _ => .bl true) (ps ++ [p])) :: (q ++ g4)) := by
    have e : putC (.dT (keyed (fun _ => .bl true) ps)) (.tup [.int (p.1 : Nat), .int (p.2 : Nat)]) (.bl true) = some (.dT (keyed (fun _ => .bl true) (ps ++ [p]))) := by
      unfold putC
      dsimp only
      rw [if_pos (by rw [keyed_len]; exact lt_sl hl)]
      show (some (pk p)).map _ = _
      rw [Option.map_some]
      have e := putD_new (f := fun _ => .bl true) hp
      rw [← e]
    unfold vSet
    dsimp only
    rw [at0]
    dsimp only
    rw [e]
    dsimp only
    rw [st0]
  rw [e_asg, e_C, R.toS_ok, e_gsb, v1, Dn.R.bind_ok, t, Dn.R.bind_ok, st, Dn.R.bind_ok]
theorem look_ok {A : Store} {s m : Nat} {g : Gate} (h : Shape s m g) (hg : IsGate s m g) : OpF A FLook [gateD g] (.bl true) := by
  intro B hB
  have hm := h.m0
  have hs1 := h.s1
  have hm1 := h.m1
  have hmul : m * s ≤ 1000 * 1000 := Nat.mul_le_mul hm1 hs1
  obtain ⟨ps, hps⟩ : ∃ ps, ps = g.flatten := ⟨_, rfl⟩
  have hperm : ps.Perm (allP s m) := hps ▸ hg.perm
  have hnd : ps.Nodup := hperm.nodup_iff.mpr (nodup_allP s m)
  have hpl : ps.length ≤ 1000000 := by
    rw [hperm.length_eq, allP_len]
    rw [Nat.mul_comm] at hmul
    omega
  have hpl2 := sl_ge _ hpl
  obtain ⟨g1, f1⟩ := EvN.ifF (A := B) (E := [some (gateD g), none, none, none, none, none, none]) (a := dBad) (EvB.not (b := true) (EvB.test (Ev.call (.cons (.var (i := 0) rfl) .nil) (form_ok h)))) .next B (List.prefix_refl _)
  obtain ⟨C, hC⟩ : ∃ C : Store, C = B ++ g1 := ⟨_, rfl⟩
  rw [← hC] at f1
  have p2 : dAsg dNewT (gNm 1) [some (gateD g), none, none, none, none, none, none] C = .nx (kEnv g C.length none none none none none) (C ++ [.dT []]) := rfl
  obtain ⟨q, e⟩ := lc2_map (S := C ++ [.dT []]) (g := gNm 5) (g1 := gNm 6) (te := dVar 6) (it1 := iVal (dVar 5)) (ws1 := [6]) (env := kEnv g C.length none none none none none) (h := rowD) (h1 := pairD) (f := pairD) (r := id) (l := g) (acc := []) (q := []) (by simpa [hps] using hpl2) fun r _ => ⟨_, fun _ => rfl, fun _ => rfl, fun p _ => ⟨_, fun _ => rfl, .var rfl⟩⟩
  rw [List.flatMap_id, ← hps, List.nil_append] at e
  have it : iEnumD (aCons (dLc2 (iVal (dVar 0)) (gNm 5) dYes (iVal (dVar 5)) (gNm 6) dYes (dVar 6) [5, 6] [6]) aNil) (kEnv g C.length none none none none none) (C ++ [.dT []]) = .ok (enumD 0 (ps.map pairD), fun st' => isLst st' (C.length + 1) (ps.map pairD)) (C ++ .dT [] :: .lst (ps.map pairD) :: q) := by
    have e1 : dLc2 (iVal (dVar 0)) (gNm 5) dYes (iVal (dVar 5)) (gNm 6) dYes (dVar 6) [5, 6] [6] (kEnv g C.length none none none none none) (C ++ [.dT []]) = .ok (.ref (C ++ [Cell.dT []]).length) (C ++ .dT [] :: .lst (ps.map pairD) :: q) := by
      have i0 : iVal (dVar 0) (kEnv g C.length none none none none none) (C ++ [.dT []]) = .ok (g.map rowD, fun _ => true) (C ++ [.dT []]) := rfl
      unfold dLc2
      rw [i0, Dn.R.bind_ok]
      dsimp only
      have e' : lc2N (C ++ [Cell.dT []]).length (fun _ => true) (gNm 5) dYes (iVal (dVar 5)) (gNm 6) dYes (dVar 6) [6] (dWipe (kEnv g C.length none none none none none) [5, 6]) (g.map rowD) (C ++ [Cell.dT []] ++ [.lst []]) = .ok () (C ++ [Cell.dT []] ++ .lst (ps.map pairD) :: q) := e
      rw [e', Dn.R.bind_ok]
      simp
    have hlen : (C ++ [Cell.dT []]).length = C.length + 1 := by simp
    rw [hlen] at e1
    have e2 : aCons (dLc2 (iVal (dVar 0)) (gNm 5) dYes (iVal (dVar 5)) (gNm 6) dYes (dVar 6) [5, 6] [6]) aNil (kEnv g C.length none none none none none) (C ++ [.dT []]) = .ok [.ref (C.length + 1)] (C ++ .dT [] :: .lst (ps.map pairD) :: q) := by
      rw [e_acons, e1, Dn.R.bind_ok, e_anil, Dn.R.bind_ok]
    unfold iEnumD
    rw [e2, Dn.R.bind_ok]
    dsimp only
    unfold seq2Of
    dsimp only
    rw [at1]
    rfl
  obtain ⟨env', st', e3, x2, x3, x4, x5, x6, q', rfl, e4⟩ := forL_run (chk := fun st' => isLst st' (C.length + 1) (ps.map pairD)) (g := gTp 2 (gsCons (gNm 2) (gsCons (gTp 2 (gsCons (gNm 3) (gsCons (gNm 4) gsNil))) gsNil))) (m := lBody)
    (fun i env st => ∃ x2 x3 x4 x5 x6 q, env = kEnv g C.length x2 x3 x4 x5 x6 ∧ st = C ++ .dT (keyed (fun _ => .bl true) (ps.take i)) :: .lst (ps.map pairD) :: q)
    (fun i env st ⟨_, _, _, _, _, q, _, h⟩ => by rw [h]; unfold isLst; rw [at1]; simp)
    (xs := enumD 0 (ps.map pairD)) (i0 := 0) (env := kEnv g C.length none none none none none) (st := C ++ .dT [] :: .lst (ps.map pairD) :: q) ⟨none, none, none, none, none, q, rfl, rfl⟩ (by
      rintro i x env st hx ⟨x2, x3, x4, x5, x6, q, rfl, rfl⟩
      rw [Nat.zero_add]
      obtain ⟨y, hy, rfl⟩ := enum_get hx
      obtain ⟨p, hp, rfl⟩ := map_get hy
      have hpm : p ∈ allP s m := hperm.mem_iff.mp (List.mem_of_getElem? hp)
      obtain ⟨a1, a2⟩ := mem_allP.mp hpm
      have hi : i < ps.length := (List.getElem?_eq_some_iff.mp hp).1
      have hnp : p ∉ ps.take i := by
        intro hmem
        have hd : p ∈ ps.drop i := List.mem_of_getElem? (i := 0) (by rw [List.getElem?_drop]; exact hp)
        have h1 : (ps.take i ++ ps.drop i).Nodup := by rw [List.take_append_drop]; exact hnd
        rw [List.nodup_append] at h1
        exact h1.2.2 p hmem p hd rfl
      obtain ⟨g', e⟩ := lBody_ok (B := C) (ps := ps.take i) (p := p) (x2 := some (.int (i : Nat))) (x5 := x5) (x6 := x6) (q := .lst (ps.map pairD) :: q) h a1 a2 hnp (by rw [List.length_take]; omega)
      refine ⟨_, _, _, _, rfl, e, some (.int (i : Nat)), _, _, x5, x6, q ++ g', rfl, ?_⟩
      rw [List.take_add_one, hp]
      rfl)
  have p3 : dFor (iEnumD (aCons (dLc2 (iVal (dVar 0)) (gNm 5) dYes (iVal (dVar 5)) (gNm 6) dYes (dVar 6) [5, 6] [6]) aNil)) (gTp 2 (gsCons (gNm 2) (gsCons (gTp 2 (gsCons (gNm 3) (gsCons (gNm 4) gsNil))) gsNil))) lBody (kEnv g C.length none none none none none) (C ++ [.dT []]) = .nx (kEnv g C.length x2 x3 x4 x5 x6) st' := by
    rw [e_for, it, R.toS_ok]
    exact e3
  refine trimF_pure (g := g1 ++ .dT (keyed (fun _ => .bl true) (ps.take (0 + (enumD 0 (ps.map pairD)).length))) :: .lst (ps.map pairD) :: q') (dDef_rt rfl rfl ((dSeq_nx f1).trans ((dSeq_nx p2).trans ((dSeq_nx p3).trans ?_)))) rfl
  rw [e4, hC]
  simp [e_ret, e_C]
end
end Pn
set_option Elab.async false
set_option linter.all false
set_option maxHeartbeats 1000000
set_option maxRecDepth 100000
namespace Pn
open PySem PySem.Spec L2 Dn
section
variable {A S B : Store} {E E' : Dn.Env} {m ma mb : DE} {xs ys vs : List D} {x y v : D}
theorem rng_eq (k : Nat) : rngD 0 (k : Nat) = (List.range k).map fun i => D.int (i : Nat) := by
  have e := rng_map id k
  rw [List.map_id] at e
  exact e
end
/-! ### the inverse of a gate -/
def gat (g : Gate) (k i : Nat) : Option (Nat × Nat) := g[k]?.bind (·[i]?)
open Classical in
noncomputable def inv (g : Gate) (p : Nat × Nat) : Nat × Nat := if h : ∃ z : Nat × Nat, gat g z.2 z.1 = some p then h.choose else (0, 0)
theorem gat_uniq {g : Gate} : g.flatten.Nodup → ∀ {k i k' i' : Nat} {p : Nat × Nat}, gat g k i = some p → gat g k' i' = some p → k = k' ∧ i = i' := by
  induction g with
  | nil => intro _ k i k' i' p h; simp [gat] at h
  | cons r g ih =>
    intro hn k i k' i' p h h'
    rw [List.flatten_cons, List.nodup_append] at hn
    obtain ⟨n1, n2, n3⟩ := hn
    have mem : ∀ {k i : Nat}, gat g k i = some p → p ∈ g.flatten := fun {k i} h => by
      unfold gat at h
      obtain ⟨r, h1, h2⟩ := Option.bind_eq_some_iff.mp h
      exact List.mem_flatten.mpr ⟨r, List.mem_of_getElem? h1, List.mem_of_getElem? h2⟩
    cases k with
    | zero =>
      have h0 : r[i]? = some p := h
      cases k' with
      | zero =>
        have h0' : r[i']? = some p := h'
        refine ⟨rfl, ?_⟩
        have hi := (List.getElem?_eq_some_iff.mp h0).1
        exact (List.getElem?_inj hi n1).mp (h0.trans h0'.symm)
      | succ k' => exact absurd rfl (n3 p (List.mem_of_getElem? h0) p (mem (k := k') (i := i') h'))
    | succ k =>
      cases k' with
      | zero =>
        have h0' : r[i']? = some p := h'
        exact absurd rfl (n3 p (List.mem_of_getElem? h0') p (mem (k := k) (i := i) h))
      | succ k' =>
        obtain ⟨a, b⟩ := ih n2 (k := k) (i := i) (k' := k') (i' := i') h h'
        exact ⟨by rw [a], b⟩
/-! ### turned_gate -/
end Pn
set_option Elab.async false
set_option linter.all false
set_option maxHeartbeats 1000000
set_option maxRecDepth 100000
namespace Pn
open PySem PySem.Spec L2 Dn
/-! ### gates as functions -/
def FF (g : Gate) (k i : Nat) : Nat × Nat := (g.getD k []).getD i (0, 0)
/-! ### the inverse of beside -/
theorem gat_FF {s m : Nat} {g : Gate} (hl : g.length = m) (hr : ∀ r ∈ g, r.length = s) {k i : Nat} (hk : k < m) (hi : i < s) : gat g k i = some (FF g k i) := by
  have hg : g[k]? = some (g[k]'(by omega)) := List.getElem?_eq_getElem _
  have hrl := hr (g[k]'(by omega)) (List.getElem_mem _)
  have e : g.getD k [] = g[k]'(by omega) := by rw [List.getD_eq_getElem?_getD, hg]; rfl
  unfold gat FF
  rw [hg, Option.bind_some, e, List.getD_eq_getElem?_getD, List.getElem?_eq_getElem (by omega)]
  rfl
end Pn
set_option Elab.async false
set_option linter.all false
set_option maxHeartbeats 1000000
set_option maxRecDepth 100000
/-! Qn1: what is known of the slots: data, cells of their own; what stands elsewhere stands -/
namespace Qn
open PySem PySem.Spec L2 Dn Pn
inductive PV where
  | any | d (x : D) | c (o : Option Nat) (c : Cell)
abbrev PE := List PV
/-- cells of others -/
abbrev Fr := Nat → Option Cell
def Fr.add (f : Fr) (n : Nat) (c : Cell) : Fr := fun k => if k = n then some c else f k
def PvOk (f : Fr) (S : Store) (x : Option (Option D)) : PV → Prop
  | .any => True
  | .d v => x = some (some v)
  | .c o c => ∃ n, x = some (some (.ref n)) ∧ S[n]? = some c ∧ f n = none ∧ ∀ m, o = some m → n = m
/-- cells that stand whatever is done: a part of what stands elsewhere -/
class KF where
  k : Nat → Option Cell
instance (priority := low) kf0 : KF := ⟨fun _ => none⟩
structure Sd [KF] (f : Fr) (P : PE) (E : Dn.Env) (S : Store) : Prop where
  len : E.length = P.length
  fr : ∀ n c, f n = some c → S[n]? = some c
  at_ : ∀ (i : Nat) (p : PV), P[i]? = some p → PvOk f S E[i]? p
  sep : ∀ (i j : Nat) (o o' : Option Nat) (c c' : Cell) (n : Nat), P[i]? = some (.c o c) → P[j]? = some (.c o' c') → E[i]? = some (some (.ref n)) → E[j]? = some (some (.ref n)) → i = j
  kn : ∀ (n : Nat) (c : Cell), KF.k n = some c → f n = some c
section
variable [KF] {f f' : Fr} {P P' P1 P2 : PE} {E E' : Dn.Env} {S S' g : Store} {i j n : Nat} {o : Option Nat} {c c' : Cell} {p : PV} {x v w : D}
theorem get_lt {c : Cell} (h : S[n]? = some c) : n < S.length := (List.getElem?_eq_some_iff.mp h).1
theorem Sd.cell (h : Sd f P E S) (hP : P[i]? = some (.c o c)) : ∃ n, E[i]? = some (some (.ref n)) ∧ S[n]? = some c ∧ f n = none ∧ ∀ m, o = some m → n = m := h.at_ i _ hP
theorem Sd.data (h : Sd f P E S) (hP : P[i]? = some (.d v)) : E[i]? = some (some v) := h.at_ i _ hP
theorem PvOk.grow {xo : Option (Option D)} (h : PvOk f S xo p) (g : Store) : PvOk f (S ++ g) xo p := by
  cases p with
  | any => trivial
  | d v => exact h
  | c o c =>
    obtain ⟨n, a, b, d⟩ := h
    exact ⟨n, a, by rw [List.getElem?_append_left (get_lt b), b], d⟩
theorem Sd.grow (h : Sd f P E S) (g : Store) : Sd f P E (S ++ g) :=
  ⟨h.len, fun n c e => by rw [List.getElem?_append_left (get_lt (h.fr n c e)), h.fr n c e], fun i p e => (h.at_ i p e).grow g, h.sep, h.kn⟩
theorem Sd.fnew (h : Sd f P E S) (hn : S.length ≤ n) : f n = none := by
  cases e : f n with
  | none => rfl
  | some c =>
    have := get_lt (h.fr n c e)
    omega
theorem getS {α : Type} {l : List α} {a b : α} (h : (l.set i a)[j]? = some b) : (i = j ∧ a = b ∧ i < l.length) ∨ (i ≠ j ∧ l[j]? = some b) := by
  by_cases e : i = j
  · subst e
    have hl : i < l.length := by
      have := (List.getElem?_eq_some_iff.mp h).1
      simpa using this
    rw [List.getElem?_set_self hl] at h
    cases h
    exact .inl ⟨rfl, rfl, hl⟩
  · rw [List.getElem?_set_ne e] at h
    exact .inr ⟨e, h⟩
theorem Sd.set (h : Sd f P E S) (i : Nat) (p : PV) (x : Option D) (hp : PvOk f S (some x) p) (hs : ∀ o c n, p = .c o c → x = some (.ref n) → ∀ j o' c', j ≠ i → P[j]? = some (.c o' c') → E[j]? ≠ some (some (.ref n))) : Sd f (P.set i p) (E.set i x) S := by
  refine ⟨by rw [List.length_set, List.length_set, h.len], h.fr, fun j q e => ?_, fun a b oa ob ca cb n ha hb ea eb => ?_, h.kn⟩
  · rcases getS e with ⟨rfl, rfl, hl⟩ | ⟨hne, e⟩
    · rw [List.getElem?_set_self (by rw [h.len]; exact hl)]
      exact hp
    · rw [List.getElem?_set_ne hne]
      exact h.at_ j q e
  · rcases getS ha with ⟨rfl, rfl, hl⟩ | ⟨na, ha'⟩
    · rcases getS hb with ⟨rfl, _, _⟩ | ⟨nb, hb'⟩
      · rfl
      · rw [List.getElem?_set_self (by rw [h.len]; exact hl)] at ea
        rw [List.getElem?_set_ne nb] at eb
        cases ea
        exact absurd eb (hs _ _ _ rfl rfl b ob cb (Ne.symm nb) hb')
    · rcases getS hb with ⟨rfl, rfl, hl⟩ | ⟨nb, hb'⟩
      · rw [List.getElem?_set_self (by rw [h.len]; exact hl)] at eb
        rw [List.getElem?_set_ne na] at ea
        cases eb
        exact absurd ea (hs _ _ _ rfl rfl a oa ca (Ne.symm na) ha')
      · rw [List.getElem?_set_ne na] at ea
        rw [List.getElem?_set_ne nb] at eb
        exact h.sep a b oa ob ca cb n ha' hb' ea eb
theorem Sd.setD (h : Sd f P E S) (i : Nat) (v : D) : Sd f (P.set i (.d v)) (E.set i (some v)) S := h.set i _ _ rfl fun _ _ _ z => by cases z
theorem Sd.setAny (h : Sd f P E S) (i : Nat) (x : Option D) : Sd f (P.set i .any) (E.set i x) S := h.set i _ _ trivial fun _ _ _ z => by cases z
theorem set_same {α : Type} {l : List α} {a : α} (h : l[i]? = some a) : l.set i a = l := by
  apply List.ext_getElem?
  intro j
  by_cases e : i = j
  · subst e; rw [List.getElem?_set_self (List.getElem?_eq_some_iff.mp h).1, h]
  · rw [List.getElem?_set_ne e]
theorem Sd.forget (h : Sd f P E S) (i : Nat) : Sd f (P.set i .any) E S := by
  cases e : E[i]? with
  | none =>
    have hl : P.length ≤ i := by
      rw [← h.len]
      exact List.getElem?_eq_none_iff.mp e
    rw [List.set_eq_of_length_le hl]
    exact h
  | some x =>
    have := h.setAny i x
    rw [set_same e] at this
    exact this
theorem Sd.write (h : Sd f P E S) (hP : P[i]? = some (.c o c)) (hE : E[i]? = some (some (.ref n))) (c' : Cell) : Sd f (P.set i (.c o c')) E (S.set n c') := by
  obtain ⟨n', e1, e2, e3, e4⟩ := h.cell hP
  rw [hE] at e1
  cases e1
  have hl := get_lt e2
  refine ⟨by rw [List.length_set]; exact h.len, fun k d e => ?_, fun j q e => ?_, fun a b oa ob ca cb m ha hb ea eb => ?_, h.kn⟩
  · have hk : n ≠ k := fun z => by subst z; rw [e3] at e; cases e
    rw [List.getElem?_set_ne hk]
    exact h.fr k d e
  · rcases getS e with ⟨rfl, rfl, _⟩ | ⟨hne, e⟩
    · exact ⟨n, hE, List.getElem?_set_self hl, e3, e4⟩
    · have q0 := h.at_ j q e
      cases q with
      | any => trivial
      | d v => exact q0
      | c oj cj =>
        obtain ⟨m, a, b, d⟩ := q0
        have hm : n ≠ m := fun z => by subst z; exact hne (h.sep i j _ _ _ _ n hP e hE a)
        exact ⟨m, a, by rw [List.getElem?_set_ne hm]; exact b, d⟩
  · have get : ∀ (k : Nat) (ok : Option Nat) (ck : Cell), (P.set i (.c o c'))[k]? = some (.c ok ck) → ∃ (ok' : Option Nat) (ck' : Cell), P[k]? = some (.c ok' ck') := fun k ok ck e => by
      rcases getS e with ⟨rfl, _, _⟩ | ⟨_, e⟩
      · exact ⟨_, _, hP⟩
      · exact ⟨_, _, e⟩
    obtain ⟨_, _, ha'⟩ := get a _ _ ha
    obtain ⟨_, _, hb'⟩ := get b _ _ hb
    exact h.sep a b _ _ _ _ m ha' hb' ea eb
theorem Fr.add_same (f : Fr) : f.add n c n = some c := if_pos rfl
theorem Fr.add_ne (f : Fr) {k : Nat} (h : k ≠ n) : f.add n c k = f k := if_neg h
/-- fewer cells of others -/
theorem Sd.weak (h : Sd f' P E S) (hf : ∀ n c, f n = some c → f' n = some c) (hk : ∀ n c, KF.k n = some c → f n = some c) : Sd f P E S := by
  refine ⟨h.len, fun n c e => h.fr n c (hf n c e), fun i p e => ?_, h.sep, hk⟩
  have q := h.at_ i p e
  cases p with
  | any => trivial
  | d v => exact q
  | c o c =>
    obtain ⟨n, a, b, d, k⟩ := q
    refine ⟨n, a, b, ?_, k⟩
    cases e : f n with
    | none => rfl
    | some c' => rw [hf n c' e] at d; cases d
theorem Sd.unadd (h : Sd (f.add n c) P E S) (hn : f n = none) (hk : ∀ n c, KF.k n = some c → f n = some c) : Sd f P E S := h.weak (fun k d e => by
  by_cases z : k = n
  · subst z; rw [hn] at e; cases e
  · rw [Fr.add_ne f z, e]) hk
theorem Sd.addc (h : Sd (f.add n c) P E S) : S[n]? = some c := h.fr n c (Fr.add_same f)
/-- a new cell -/
theorem Sd.alloc (h : Sd f P E S) (c : Cell) : Sd (f.add S.length c) P E (S ++ [c]) ∧ f S.length = none := by
  have hn : f S.length = none := h.fnew (Nat.le_refl _)
  have h1 := h.grow [c]
  refine ⟨⟨h.len, fun k d e => ?_, fun i p e => ?_, h.sep, fun k d e => by rw [Fr.add_ne f (fun z => by rw [z] at e; rw [h.kn _ _ e] at hn; cases hn)]; exact h.kn k d e⟩, hn⟩
  · by_cases z : k = S.length
    · subst z
      rw [Fr.add_same] at e
      cases e
      simp
    · rw [Fr.add_ne f z] at e
      exact h1.fr k d e
  · have q := h.at_ i p e
    cases p with
    | any => trivial
    | d v => exact q
    | c o c' =>
      obtain ⟨m, a, b, d⟩ := q
      have hm := get_lt b
      exact ⟨m, a, by rw [List.getElem?_append_left hm, b], by rw [Fr.add_ne f (by omega)]; exact d.1, d.2⟩
/-- a new cell put into a slot -/
theorem Sd.take (h : Sd (f.add n c) P E S) (hn : f n = none) (hk : ∀ n c, KF.k n = some c → f n = some c) (i : Nat) : Sd f (P.set i (.c none c)) (E.set i (some (.ref n))) S := by
  refine (h.unadd hn hk).set i _ _ ⟨n, rfl, h.addc, hn, fun _ z => by cases z⟩ fun o' c'' n' z1 z2 j oj cj hj ej q => ?_
  cases z2
  obtain ⟨m, a, b, d, _⟩ := h.cell ej
  rw [q] at a
  cases a
  rw [Fr.add_same] at d
  cases d
/-- the slot's cell, its number told -/
theorem Sd.name (h : Sd f P E S) (hP : P[i]? = some (.c o c)) : ∃ n, Sd f (P.set i (.c (some n) c)) E S := by
  obtain ⟨n, e1, e2, e3, e4⟩ := h.cell hP
  have z := h.set i (.c (some n) c) (some (.ref n)) ⟨n, rfl, e2, e3, fun m z => by cases z; rfl⟩ fun o' c'' n' z1 z2 j oj cj hj ej q => by
    cases z2
    exact hj (h.sep j i _ _ _ _ n ej hP q e1)
  rw [set_same e1] at z
  exact ⟨n, z⟩
/-- what is data, known of a slot ahead, is known of it behind -/
theorem Sd.know (h : Sd f P E S) (hE : E[i]? = some (some v)) : Sd f (P.set i (.d v)) E S := by
  have z := h.setD i v
  rw [set_same hE] at z
  exact z
end
end Qn
set_option Elab.async false
set_option linter.all false
set_option maxHeartbeats 1000000
set_option maxRecDepth 100000
/-! Qn2: expressions -/
namespace Qn
open PySem PySem.Spec L2 Dn Pn
/-! ### judgements -/
section
variable [KF]
def Ex (P : PE) (m : DE) (v : D) (P' : PE) : Prop := ∀ f E S, Sd f P E S → ∃ S', m E S = .ok v S' ∧ Sd f P' E S'
def ExB (P : PE) (m : DB) (b : Bool) (P' : PE) : Prop := ∀ f E S, Sd f P E S → ∃ S', m E S = .ok b S' ∧ Sd f P' E S'
def ExA (P : PE) (m : DA) (vs : List D) (P' : PE) : Prop := ∀ f E S, Sd f P E S → ∃ S', m E S = .ok vs S' ∧ Sd f P' E S'
/-- a new cell -/
def ExN (P : PE) (m : DE) (c : Cell) (P' : PE) : Prop := ∀ f E S, Sd f P E S → ∃ n S', m E S = .ok (.ref n) S' ∧ f n = none ∧ Sd (f.add n c) P' E S'
def Sub (f f' : Fr) : Prop := ∀ n c, f n = some c → f' n = some c
theorem Sub.refl (f : Fr) : Sub f f := fun _ _ h => h
theorem Sub.trans {f g h : Fr} (a : Sub f g) (b : Sub g h) : Sub f h := fun n c e => b n c (a n c e)
theorem Sub.add {f : Fr} {n : Nat} {c : Cell} (h : f n = none) : Sub f (f.add n c) := fun k d e => by
  by_cases z : k = n
  · subst z; rw [h] at e; cases e
  · rw [Fr.add_ne f z, e]
theorem Sub.addS {f f' : Fr} (h : Sub f f') (n : Nat) (c : Cell) : Sub (f.add n c) (f'.add n c) := fun k d e => by
  by_cases z : k = n
  · subst z; rw [Fr.add_same] at e ⊢; exact e
  · rw [Fr.add_ne _ z] at e ⊢; exact h k d e
theorem Sub.none {f f' : Fr} {n : Nat} (h : Sub f f') (e : f' n = none) : f n = none := by
  cases q : f n with
  | none => rfl
  | some c => rw [h n c q] at e; cases e
/-- where a cell is held: by a slot, or newly -/
def Hold (f f' : Fr) (E : Dn.Env) (n : Nat) (c : Cell) : Option Nat → Prop
  | none => f n = none ∧ f' n = some c
  | some i => E[i]? = some (some (.ref n))
def Keep (P : PE) (c : Cell) : Option Nat → Prop
  | none => True
  | some i => ∃ o, P[i]? = some (.c o c)
def Hd (P : PE) (m : DE) (k : Option Nat) (c : Cell) (P' : PE) : Prop := ∀ f E S, Sd f P E S → ∃ n S' f', m E S = .ok (.ref n) S' ∧ Sd f' P' E S' ∧ Sub f f' ∧ Hold f f' E n c k
end
section
variable [KF] {f f' f'' : Fr} {P P' P0 P1 P2 P3 : PE} {E E' : Dn.Env} {S S' g : Store} {i j n : Nat} {o : Option Nat} {k k' : Option Nat} {c c' : Cell} {p : PV} {x y z v w : D} {m ma mb mc : DE} {a : DA} {xs ys vs : List D} {b b' : Bool} {nb nb' : DB}
theorem Hold.get (h : Hold f f' E n c k) (K : Keep P c k) (s : Sd f'' P E S) (u : Sub f' f'') : S[n]? = some c := by
  cases k with
  | none => exact s.fr n c (u n c h.2)
  | some i =>
    obtain ⟨o, e⟩ := K
    obtain ⟨n', e1, e2, _⟩ := s.cell e
    rw [h] at e1
    cases e1
    exact e2
theorem Ex.con (v : D) : Ex P (dC v) v P := fun f E S h => ⟨S, rfl, h⟩
theorem Ex.var (hv : P[i]? = some (.d v)) : Ex P (dVar i) v P := fun f E S h => ⟨S, by unfold dVar; rw [h.data hv], h⟩
theorem ExN.hd (h : ExN P m c P') : Hd P m none c P' := fun f E S s => by
  obtain ⟨n, S', e, hn, s'⟩ := h f E S s
  exact ⟨n, S', _, e, s', Sub.add hn, hn, Fr.add_same f⟩
theorem Hd.var (hv : P[i]? = some (.c o c)) : Hd P (dVar i) (some i) c P := fun f E S h => by
  obtain ⟨n, e1, _⟩ := h.cell hv
  exact ⟨n, S, f, by unfold dVar; rw [e1], h, Sub.refl f, e1⟩
theorem Hd.keep (h : Hd P m k c P') (hk : Keep P' c k) {f : Fr} {E : Dn.Env} {S : Store} (s : Sd f P E S) : ∃ n S', m E S = .ok (.ref n) S' ∧ Sd f P' E S' ∧ S'[n]? = some c := by
  obtain ⟨n, S', f', e, s', u, hh⟩ := h f E S s
  exact ⟨n, S', e, s'.weak u s.kn, hh.get hk s' (Sub.refl _)⟩
/-! ### operators -/
theorem Ex.bin {t : D → D → Store → R D} (ha : Ex P ma x P1) (hb : Ex P1 mb y P2) (ht : ∀ S, t x y S = .ok z S) : Ex P (dBin t ma mb) z P2 := fun f E S s => by
  obtain ⟨S1, e1, s1⟩ := ha f E S s
  obtain ⟨S2, e2, s2⟩ := hb f E S1 s1
  exact ⟨S2, by rw [e_Bin, e1, Dn.R.bind_ok, e2, Dn.R.bind_ok, ht], s2⟩
theorem Ex.un {t : D → Store → R D} (ha : Ex P ma x P1) (ht : ∀ S, t x S = .ok z S) : Ex P (dUn t ma) z P1 := fun f E S s => by
  obtain ⟨S1, e1, s1⟩ := ha f E S s
  exact ⟨S1, by rw [e_Un, e1, Dn.R.bind_ok, ht], s1⟩
/-- a held cell and data -/
theorem Ex.binH {t : D → D → Store → R D} (ha : Hd P ma k c P1) (hb : Ex P1 mb y P2) (hk : Keep P2 c k) (ht : ∀ S n, S[n]? = some c → t (.ref n) y S = .ok z S) : Ex P (dBin t ma mb) z P2 := fun f E S s => by
  obtain ⟨n, S1, f', e1, s1, u, hh⟩ := ha f E S s
  obtain ⟨S2, e2, s2⟩ := hb f' E S1 s1
  exact ⟨S2, by rw [e_Bin, e1, Dn.R.bind_ok, e2, Dn.R.bind_ok, ht _ _ (hh.get hk s2 (Sub.refl _))], s2.weak u s.kn⟩
/-- data and a held cell -/
theorem Ex.binD {t : D → D → Store → R D} (ha : Ex P ma x P1) (hb : Hd P1 mb k c P2) (hk : Keep P2 c k) (ht : ∀ S n, S[n]? = some c → t x (.ref n) S = .ok z S) : Ex P (dBin t ma mb) z P2 := fun f E S s => by
  obtain ⟨S1, e1, s1⟩ := ha f E S s
  obtain ⟨n, S2, e2, s2, h2⟩ := hb.keep hk s1
  exact ⟨S2, by rw [e_Bin, e1, Dn.R.bind_ok, e2, Dn.R.bind_ok, ht _ _ h2], s2⟩
theorem Ex.binHH {t : D → D → Store → R D} (ha : Hd P ma k c P1) (hb : Hd P1 mb k' c' P2) (hk : Keep P2 c k) (hk' : Keep P2 c' k') (ht : ∀ S n n', S[n]? = some c → S[n']? = some c' → t (.ref n) (.ref n') S = .ok z S) : Ex P (dBin t ma mb) z P2 := fun f E S s => by
  obtain ⟨n, S1, f1, e1, s1, u1, h1⟩ := ha f E S s
  obtain ⟨n', S2, f2, e2, s2, u2, h2⟩ := hb f1 E S1 s1
  exact ⟨S2, by rw [e_Bin, e1, Dn.R.bind_ok, e2, Dn.R.bind_ok, ht _ _ _ (h1.get hk s2 u2) (h2.get hk' s2 (Sub.refl _))], s2.weak (u1.trans u2) s.kn⟩
/-- what is new at the store's end, or further on -/
theorem Sd.newAt (s : Sd f P E S) (hn : S.length ≤ n) (hc : (S ++ g)[n]? = some c) : f n = none ∧ Sd (f.add n c) P E (S ++ g) := by
  have hf := s.fnew hn
  have s1 := s.grow g
  refine ⟨hf, s1.len, fun k d e => ?_, fun i p e => ?_, s1.sep, fun k d e => by rw [Fr.add_ne f (fun z => by rw [z] at e; rw [s.kn _ _ e] at hf; cases hf)]; exact s.kn k d e⟩
  · by_cases q : k = n
    · subst q; rw [Fr.add_same] at e; cases e; exact hc
    · rw [Fr.add_ne f q] at e; exact s1.fr k d e
  · have q := s.at_ i p e
    cases p with
    | any => trivial
    | d v => exact q
    | c o c' =>
      obtain ⟨r, a, b, d⟩ := q
      have hr := get_lt b
      exact ⟨r, a, by rw [List.getElem?_append_left hr, b], by rw [Fr.add_ne f (by omega)]; exact d.1, d.2⟩
theorem ExN.binHH {t : D → D → Store → R D} (ha : Hd P ma k c P1) (hb : Hd P1 mb k' c' P2) (hk : Keep P2 c k) (hk' : Keep P2 c' k') {cz : Cell} (ht : ∀ S n n', S[n]? = some c → S[n']? = some c' → t (.ref n) (.ref n') S = .ok (.ref S.length) (S ++ [cz])) : ExN P (dBin t ma mb) cz P2 := fun f E S s => by
  obtain ⟨n, S1, f1, e1, s1, u1, h1⟩ := ha f E S s
  obtain ⟨n', S2, f2, e2, s2, u2, h2⟩ := hb f1 E S1 s1
  obtain ⟨q1, q2⟩ := (s2.weak (u1.trans u2) s.kn).newAt (g := [cz]) (n := S2.length) (c := cz) (Nat.le_refl _) (by simp)
  exact ⟨_, _, by rw [e_Bin, e1, Dn.R.bind_ok, e2, Dn.R.bind_ok, ht _ _ _ (h1.get hk s2 u2) (h2.get hk' s2 (Sub.refl _))], q1, q2⟩
theorem ExN.binH {t : D → D → Store → R D} (ha : Hd P ma k c P1) (hb : Ex P1 mb y P2) (hk : Keep P2 c k) {cz : Cell} (ht : ∀ S n, S[n]? = some c → t (.ref n) y S = .ok (.ref S.length) (S ++ [cz])) : ExN P (dBin t ma mb) cz P2 := fun f E S s => by
  obtain ⟨n, S1, f1, e1, s1, u1, h1⟩ := ha f E S s
  obtain ⟨S2, e2, s2⟩ := hb f1 E S1 s1
  obtain ⟨q1, q2⟩ := (s2.weak u1 s.kn).newAt (g := [cz]) (n := S2.length) (c := cz) (Nat.le_refl _) (by simp)
  exact ⟨_, _, by rw [e_Bin, e1, Dn.R.bind_ok, e2, Dn.R.bind_ok, ht _ _ (h1.get hk s2 (Sub.refl _))], q1, q2⟩
/-! ### truths -/
theorem ExB.test (h : Ex P m (.bl b) P') : ExB P (dTest m) b P' := fun f E S s => by
  obtain ⟨S1, e1, s1⟩ := h f E S s
  exact ⟨S1, by rw [e_Test, e1, Dn.R.bind_ok], s1⟩
theorem ExB.yes : ExB P dYes true P := fun f E S s => ⟨S, rfl, s⟩
theorem ExB.not (h : ExB P nb b P') : ExB P (dTNot nb) (!b) P' := fun f E S s => by
  obtain ⟨S1, e1, s1⟩ := h f E S s
  exact ⟨S1, by unfold dTNot; rw [e1, Dn.R.bind_ok], s1⟩
theorem ExB.orT (h : ExB P nb true P') : ExB P (dTOr nb nb') true P' := fun f E S s => by
  obtain ⟨S1, e1, s1⟩ := h f E S s
  exact ⟨S1, by unfold dTOr; rw [e1, Dn.R.bind_ok]; rfl, s1⟩
theorem ExB.orF (h : ExB P nb false P1) (h' : ExB P1 nb' b' P') : ExB P (dTOr nb nb') b' P' := fun f E S s => by
  obtain ⟨S1, e1, s1⟩ := h f E S s
  obtain ⟨S2, e2, s2⟩ := h' f E S1 s1
  exact ⟨S2, by unfold dTOr; rw [e1, Dn.R.bind_ok]; exact e2, s2⟩
theorem ExB.andF (h : ExB P nb false P') : ExB P (dTAnd nb nb') false P' := fun f E S s => by
  obtain ⟨S1, e1, s1⟩ := h f E S s
  exact ⟨S1, by unfold dTAnd; rw [e1, Dn.R.bind_ok]; rfl, s1⟩
theorem ExB.andT (h : ExB P nb true P1) (h' : ExB P1 nb' b' P') : ExB P (dTAnd nb nb') b' P' := fun f E S s => by
  obtain ⟨S1, e1, s1⟩ := h f E S s
  obtain ⟨S2, e2, s2⟩ := h' f E S1 s1
  exact ⟨S2, by unfold dTAnd; rw [e1, Dn.R.bind_ok]; exact e2, s2⟩
theorem ExB.or (h : ExB P nb b P) (h' : b = false → ExB P nb' b' P) : ExB P (dTOr nb nb') (b || b') P := by
  cases b with
  | true => exact ExB.orT h
  | false => exact ExB.orF h (h' rfl)
theorem Ex.andF (h : Ex P ma (.bl false) P') : Ex P (dAnd ma mb) (.bl false) P' := fun f E S s => by
  obtain ⟨S1, e1, s1⟩ := h f E S s
  exact ⟨S1, by unfold dAnd; rw [e1, Dn.R.bind_ok], s1⟩
theorem Ex.andT (h : Ex P ma (.bl true) P1) (h' : Ex P1 mb v P') : Ex P (dAnd ma mb) v P' := fun f E S s => by
  obtain ⟨S1, e1, s1⟩ := h f E S s
  obtain ⟨S2, e2, s2⟩ := h' f E S1 s1
  exact ⟨S2, by unfold dAnd; rw [e1, Dn.R.bind_ok]; exact e2, s2⟩
theorem Ex.orT (h : Ex P ma (.bl true) P') : Ex P (dOr ma mb) (.bl true) P' := fun f E S s => by
  obtain ⟨S1, e1, s1⟩ := h f E S s
  exact ⟨S1, by unfold dOr; rw [e1, Dn.R.bind_ok], s1⟩
theorem Ex.orF (h : Ex P ma (.bl false) P1) (h' : Ex P1 mb v P') : Ex P (dOr ma mb) v P' := fun f E S s => by
  obtain ⟨S1, e1, s1⟩ := h f E S s
  obtain ⟨S2, e2, s2⟩ := h' f E S1 s1
  exact ⟨S2, by unfold dOr; rw [e1, Dn.R.bind_ok]; exact e2, s2⟩
theorem Ex.or (h : Ex P ma (.bl b) P) (h' : b = false → Ex P mb (.bl b') P) : Ex P (dOr ma mb) (.bl (b || b')) P := by
  cases b with
  | true => exact Ex.orT h
  | false => exact Ex.orF h (h' rfl)
theorem Ex.not (h : Ex P ma (.bl b) P') : Ex P (dNot ma) (.bl !b) P' := fun f E S s => by
  obtain ⟨S1, e1, s1⟩ := h f E S s
  exact ⟨S1, by unfold dNot; rw [e1, Dn.R.bind_ok], s1⟩
theorem Ex.chainT {t t' : D → D → Store → R D} (ha : Ex P ma x P1) (hb : Ex P1 mb y P2) (ht : ∀ S, t x y S = .ok (.bl true) S) (hc : Ex P2 mc z P3) (ht' : ∀ S, t' y z S = .ok v S) : Ex P (dChain t t' ma mb mc) v P3 := fun f E S s => by
  obtain ⟨S1, e1, s1⟩ := ha f E S s
  obtain ⟨S2, e2, s2⟩ := hb f E S1 s1
  obtain ⟨S3, e3, s3⟩ := hc f E S2 s2
  refine ⟨S3, ?_, s3⟩
  unfold dChain
  rw [e1, Dn.R.bind_ok, e2, Dn.R.bind_ok, ht, Dn.R.bind_ok]
  dsimp only
  rw [e3, Dn.R.bind_ok, ht']
theorem Ex.chainF {t t' : D → D → Store → R D} (ha : Ex P ma x P1) (hb : Ex P1 mb y P2) (ht : ∀ S, t x y S = .ok (.bl false) S) : Ex P (dChain t t' ma mb mc) (.bl false) P2 := fun f E S s => by
  obtain ⟨S1, e1, s1⟩ := ha f E S s
  obtain ⟨S2, e2, s2⟩ := hb f E S1 s1
  refine ⟨S2, ?_, s2⟩
  unfold dChain
  rw [e1, Dn.R.bind_ok, e2, Dn.R.bind_ok, ht, Dn.R.bind_ok]
/-- a chain of comparisons of whole numbers -/
theorem Ex.chain {q q' : Int → Int → Bool} {a b d : Int} (ha : Ex P ma (.int a) P) (hb : Ex P mb (.int b) P) (hc : Ex P mc (.int d) P) : Ex P (dChain (vCmp q) (vCmp q') ma mb mc) (.bl (q a b && q' b d)) P := by
  cases e : q a b with
  | false => exact Ex.chainF ha hb (fun S => by rw [e_cmp, e])
  | true => exact Ex.chainT ha hb (fun S => by rw [e_cmp, e]) hc (fun S => by rw [e_cmp]; rfl)
theorem Ex.ifT (h : ExB P nb true P1) (h' : Ex P1 ma v P') : Ex P (dIfE nb ma mb) v P' := fun f E S s => by
  obtain ⟨S1, e1, s1⟩ := h f E S s
  obtain ⟨S2, e2, s2⟩ := h' f E S1 s1
  exact ⟨S2, by unfold dIfE; rw [e1, Dn.R.bind_ok]; exact e2, s2⟩
theorem Ex.ifF (h : ExB P nb false P1) (h' : Ex P1 mb v P') : Ex P (dIfE nb ma mb) v P' := fun f E S s => by
  obtain ⟨S1, e1, s1⟩ := h f E S s
  obtain ⟨S2, e2, s2⟩ := h' f E S1 s1
  exact ⟨S2, by unfold dIfE; rw [e1, Dn.R.bind_ok]; exact e2, s2⟩
/-! ### several -/
theorem ExA.nil : ExA P aNil [] P := fun f E S s => ⟨S, rfl, s⟩
theorem ExA.cons (h : Ex P m x P1) (h' : ExA P1 a xs P') : ExA P (aCons m a) (x :: xs) P' := fun f E S s => by
  obtain ⟨S1, e1, s1⟩ := h f E S s
  obtain ⟨S2, e2, s2⟩ := h' f E S1 s1
  exact ⟨S2, by rw [e_acons, e1, Dn.R.bind_ok, e2, Dn.R.bind_ok], s2⟩
theorem ExA.one (h : Ex P m x P') : ExA P (aCons m aNil) [x] P' := .cons h .nil
theorem ExA.two (h : Ex P ma x P1) (h' : Ex P1 mb y P') : ExA P (aCons ma (aCons mb aNil)) [x, y] P' := .cons h (.one h')
theorem Ex.tup (h : ExA P a xs P') (hl : xs.length ≤ sizeLine) : Ex P (dTup a) (.tup xs) P' := fun f E S s => by
  obtain ⟨S1, e1, s1⟩ := h f E S s
  exact ⟨S1, by rw [e_tup, e1, Dn.R.bind_ok, mkTup_ok hl], s1⟩
theorem le_sl {n : Nat} (h : n ≤ 1000 := by decide) : n ≤ sizeLine := sl_ge n (by omega)
theorem Ex.tup2 (h : Ex P ma x P1) (h' : Ex P1 mb y P') : Ex P (dTup (aCons ma (aCons mb aNil))) (.tup [x, y]) P' := Ex.tup (.two h h') (show 2 ≤ sizeLine from le_sl)
theorem ExN.lst (h : ExA P a xs P') (hl : xs.length ≤ sizeLine) : ExN P (dLst a) (.lst xs) P' := fun f E S s => by
  obtain ⟨S1, e1, s1⟩ := h f E S s
  obtain ⟨q1, q2⟩ := s1.newAt (g := [.lst xs]) (n := S1.length) (c := .lst xs) (Nat.le_refl _) (by simp)
  exact ⟨_, _, by rw [e_lst, e1, Dn.R.bind_ok, mkLst_ok hl], q1, q2⟩
theorem ExN.nil : ExN P (dLst aNil) (.lst []) P := .lst .nil (Nat.zero_le _)
theorem Ex.call {F : DF} (h : ExA P a xs P') (hF : ∀ S, F xs S = .ok v S) : Ex P (dCall F a) v P' := fun f E S s => by
  obtain ⟨S1, e1, s1⟩ := h f E S s
  exact ⟨S1, by rw [e_call, e1, Dn.R.bind_ok, hF], s1⟩
theorem Ex.callF {F : DF} (h : ExA P a xs P') (hF : OpF [] F xs v) : Ex P (dCall F a) v P' := Ex.call h fun S => hF S List.nil_prefix
/-- of one held cell -/
theorem Ex.callH {F : DF} (h : Hd P m k c P') (hk : Keep P' c k) (hF : ∀ S n, S[n]? = some c → F [.ref n] S = .ok v S) : Ex P (dCall F (aCons m aNil)) v P' := fun f E S s => by
  obtain ⟨n, S1, e1, s1, h1⟩ := h.keep hk s
  exact ⟨S1, by rw [e_call, e_acons, e1, Dn.R.bind_ok, e_anil, Dn.R.bind_ok, Dn.R.bind_ok, hF _ _ h1], s1⟩
theorem ExN.callH {F : DF} (h : Hd P m k c P') (hk : Keep P' c k) {cz : Cell} (hF : ∀ S n, S[n]? = some c → F [.ref n] S = .ok (.ref S.length) (S ++ [cz])) : ExN P (dCall F (aCons m aNil)) cz P' := fun f E S s => by
  obtain ⟨n, S1, e1, s1, h1⟩ := h.keep hk s
  obtain ⟨q1, q2⟩ := s1.newAt (g := [cz]) (n := S1.length) (c := cz) (Nat.le_refl _) (by simp)
  exact ⟨_, _, by rw [e_call, e_acons, e1, Dn.R.bind_ok, e_anil, Dn.R.bind_ok, Dn.R.bind_ok, hF _ _ h1], q1, q2⟩
theorem ExN.call {F : DF} (h : ExA P a xs P') (hF : ∀ S, ∃ n g, F xs S = .ok (.ref n) (S ++ g) ∧ S.length ≤ n ∧ (S ++ g)[n]? = some c) : ExN P (dCall F a) c P' := fun f E S s => by
  obtain ⟨S1, e1, s1⟩ := h f E S s
  obtain ⟨n, g, e2, hn, hc⟩ := hF S1
  obtain ⟨q1, q2⟩ := s1.newAt hn hc
  exact ⟨_, _, by rw [e_call, e1, Dn.R.bind_ok, e2], q1, q2⟩
theorem Ex.len (h : Ex P m (.tup xs) P') : Ex P (dCall bLen (aCons m aNil)) (.int xs.length) P' := Ex.call (.one h) fun _ => rfl
theorem Ex.lenH (h : Hd P m k (.lst xs) P') (hk : Keep P' (.lst xs) k) : Ex P (dCall bLen (aCons m aNil)) (.int xs.length) P' := Ex.callH h hk fun _ _ e => len_at e
theorem Ex.tupleH (h : Hd P m k (.lst xs) P') (hk : Keep P' (.lst xs) k) : Ex P (dCall bTuple (aCons m aNil)) (.tup xs) P' := Ex.callH h hk fun _ _ e => tuple_at e
theorem Ex.tupleN (h : ExN P m (.lst xs) P') : Ex P (dCall bTuple (aCons m aNil)) (.tup xs) P' := Ex.tupleH h.hd trivial
theorem Ex.allN {α : Type} {t : α → Bool} {l : List α} (h : ExN P m (.lst (l.map fun a => D.bl (t a))) P') : Ex P (dCall bAll (aCons m aNil)) (.bl (l.all t)) P' := Ex.callH h.hd trivial fun _ _ e => all_at e
/-! ### arguments, held cells among them -/
inductive Arg where
  | d (v : D) | h (k : Option Nat) (c : Cell)
def ArgOk (f f' : Fr) (E : Dn.Env) (x : D) : Arg → Prop
  | .d v => x = v
  | .h k c => ∃ n, x = .ref n ∧ Hold f f' E n c k
def ArgsOk (f f' : Fr) (E : Dn.Env) : List D → List Arg → Prop
  | [], [] => True
  | x :: xs, a :: as => ArgOk f f' E x a ∧ ArgsOk f f' E xs as
  | _, _ => False
def freshA : List D → List Arg → List Nat
  | .ref n :: xs, .h none _ :: as => n :: freshA xs as
  | _ :: xs, _ :: as => freshA xs as
  | _, _ => []
def ExM (P : PE) (a : DA) (as : List Arg) (P' : PE) : Prop := ∀ f E S, Sd f P E S → ∃ xs S' f', a E S = .ok xs S' ∧ Sd f' P' E S' ∧ Sub f f' ∧ ArgsOk f f' E xs as ∧ (freshA xs as).Nodup ∧ ∀ n ∈ freshA xs as, f n = none
theorem Hold.sub {f0 : Fr} (h : Hold f f' E n c k) (u : Sub f' f'') (u0 : Sub f0 f) : Hold f0 f'' E n c k := by
  cases k with
  | none => exact ⟨u0.none h.1, u _ _ h.2⟩
  | some i => exact h
theorem ArgsOk.sub {f0 : Fr} (u : Sub f' f'') (u0 : Sub f0 f) : ∀ {xs : List D} {as : List Arg}, ArgsOk f f' E xs as → ArgsOk f0 f'' E xs as
  | [], [], h => h
  | x :: xs, .d v :: as, h => ⟨h.1, ArgsOk.sub u u0 h.2⟩
  | x :: xs, .h k c :: as, h => ⟨let ⟨n, a, b⟩ := h.1; ⟨n, a, b.sub u u0⟩, ArgsOk.sub u u0 h.2⟩
theorem ExM.nil : ExM P aNil [] P := fun f E S s => ⟨[], S, f, rfl, s, Sub.refl f, trivial, .nil, fun n h => by cases h⟩
theorem ExM.cons {as : List Arg} (h : Ex P m x P1) (h' : ExM P1 a as P') : ExM P (aCons m a) (.d x :: as) P' := fun f E S s => by
  obtain ⟨S1, e1, s1⟩ := h f E S s
  obtain ⟨xs, S2, f', e2, s2, u, q1, q2, q3⟩ := h' f E S1 s1
  have e : freshA (x :: xs) (.d x :: as) = freshA xs as := by cases x <;> rfl
  exact ⟨x :: xs, S2, f', by rw [e_acons, e1, Dn.R.bind_ok, e2, Dn.R.bind_ok], s2, u, ⟨rfl, q1⟩, by rw [e]; exact q2, by rw [e]; exact q3⟩
theorem ExM.consH {as : List Arg} (h : Hd P m k c P1) (h' : ExM P1 a as P') : ExM P (aCons m a) (.h k c :: as) P' := fun f E S s => by
  obtain ⟨n, S1, f1, e1, s1, u1, hh⟩ := h f E S s
  obtain ⟨xs, S2, f', e2, s2, u, q1, q2, q3⟩ := h' f1 E S1 s1
  refine ⟨.ref n :: xs, S2, f', by rw [e_acons, e1, Dn.R.bind_ok, e2, Dn.R.bind_ok], s2, u1.trans u, ⟨⟨n, rfl, hh.sub u (Sub.refl _)⟩, q1.sub (Sub.refl _) u1⟩, ?_, ?_⟩
  · cases k with
    | none =>
      show (n :: freshA xs as).Nodup
      refine List.nodup_cons.mpr ⟨fun z => ?_, q2⟩
      have := q3 n z
      rw [hh.2] at this
      cases this
    | some i => exact q2
  · cases k with
    | none =>
      intro r hr
      rcases List.mem_cons.mp hr with rfl | hr
      · exact hh.1
      · exact u1.none (q3 r hr)
    | some i => exact fun r hr => u1.none (q3 r hr)
theorem ExM.consN {as : List Arg} (h : ExN P m c P1) (h' : ExM P1 a as P') : ExM P (aCons m a) (.h none c :: as) P' := .consH h.hd h'
def KeepA (P : PE) : Arg → Prop
  | .d _ => True
  | .h k c => Keep P c k
def KeepAs (P : PE) : List Arg → Prop
  | [] => True
  | a :: as => KeepA P a ∧ KeepAs P as
/-- what the cells of the arguments hold -/
def Args (S : Store) : List D → List Arg → Prop
  | [], [] => True
  | x :: xs, .d v :: as => x = v ∧ Args S xs as
  | x :: xs, .h _ c :: as => (∃ n, x = .ref n ∧ S[n]? = some c) ∧ Args S xs as
  | _, _ => False
theorem ArgsOk.args (s : Sd f' P E S) : ∀ {xs : List D} {as : List Arg}, ArgsOk f f' E xs as → KeepAs P as → Args S xs as
  | [], [], _, _ => trivial
  | x :: xs, .d v :: as, h, hk => ⟨h.1, ArgsOk.args s h.2 hk.2⟩
  | x :: xs, .h k c :: as, h, hk => ⟨let ⟨n, a, b⟩ := h.1; ⟨n, a, b.get hk.1 s (Sub.refl _)⟩, ArgsOk.args s h.2 hk.2⟩
theorem Ex.callM {F : DF} {as : List Arg} (h : ExM P a as P') (hk : KeepAs P' as) (hF : ∀ S xs, Args S xs as → F xs S = .ok v S) : Ex P (dCall F a) v P' := fun f E S s => by
  obtain ⟨xs, S1, f', e1, s1, u, q1, _, _⟩ := h f E S s
  exact ⟨S1, by rw [e_call, e1, Dn.R.bind_ok, hF _ _ (q1.args s1 hk)], s1.weak u s.kn⟩
theorem ExN.callM {F : DF} {as : List Arg} (h : ExM P a as P') (hk : KeepAs P' as) (hF : ∀ S xs, Args S xs as → ∃ n g, F xs S = .ok (.ref n) (S ++ g) ∧ S.length ≤ n ∧ (S ++ g)[n]? = some c) : ExN P (dCall F a) c P' := fun f E S s => by
  obtain ⟨xs, S1, f', e1, s1, u, q1, _, _⟩ := h f E S s
  obtain ⟨n, g, e2, hn, hc⟩ := hF _ _ (q1.args s1 hk)
  obtain ⟨r1, r2⟩ := (s1.weak u s.kn).newAt hn hc
  exact ⟨_, _, by rw [e_call, e1, Dn.R.bind_ok, e2], r1, r2⟩
/-- a call that changes the cell of its first argument, a slot's -/
theorem Ex.callW {F : DF} {as : List Arg} (h : ExM P a (.h (some i) c :: as) P') (hP : P'[i]? = some (.c o c)) (hk : KeepAs P' as) (hF : ∀ S n xs, S[n]? = some c → Args S xs as → F (.ref n :: xs) S = .ok v (S.set n c')) : Ex P (dCall F a) v (P'.set i (.c o c')) := fun f E S s => by
  obtain ⟨xs, S1, f', e1, s1, u, q1, _, _⟩ := h f E S s
  cases xs with
  | nil => exact q1.elim
  | cons x xs =>
    obtain ⟨⟨n, rfl, hn⟩, q2⟩ := q1
    have hc : S1[n]? = some c := Hold.get (k := some i) hn ⟨o, hP⟩ s1 (Sub.refl _)
    exact ⟨_, by rw [e_call, e1, Dn.R.bind_ok, hF _ _ _ hc (q2.args s1 hk)], (s1.weak u s.kn).write hP hn c'⟩
end
end Qn
set_option Elab.async false
set_option linter.all false
set_option maxHeartbeats 1000000
set_option maxRecDepth 100000
/-! Qn3: targets, statements, loops, comprehensions, defs -/
namespace Qn
open PySem PySem.Spec L2 Dn Pn
/-! ### statements -/
inductive Out where
  | nx (P : PE) | rt (v : D) (P : PE) | rn (c : Cell) (P : PE) | ex (x : Xc) (P : PE) | bk (P : PE) | ct (P : PE)
section
variable [KF]
def Fits (f : Fr) : RS → Out → Prop
  | .nx E S, .nx P => Sd f P E S
  | .rt d S, .rt v P => d = v ∧ ∃ E, Sd f P E S
  | .rt d S, .rn c P => ∃ n E, d = .ref n ∧ f n = none ∧ Sd (f.add n c) P E S
  | .ex x E S, .ex y P => x = y ∧ Sd f P E S
  | .bk E S, .bk P => Sd f P E S
  | .ct E S, .ct P => Sd f P E S
  | _, _ => False
def QS (P : PE) (m : DS) (o : Out) : Prop := ∀ f E S, Sd f P E S → Fits f (m E S) o
def wipeP (P : PE) : List Nat → PE
  | [] => P
  | v :: vs => (wipeP P vs).set v .any
/-- a target: what it stores where (ws: the slots) -/
def Tg (ws : List Nat) (P : PE) (g : DG) (x : D) (P' : PE) : Prop := ∀ f E S, Sd f P E S → ∃ E' S', g x E S = .ok E' S' ∧ Sd f P' E' S' ∧ E'.length = E.length ∧ ∀ i, i ∉ ws → E'[i]? = E[i]?
end
section
variable [KF] {f f' f'' : Fr} {P P' P0 P1 P2 P3 : PE} {E E' : Dn.Env} {S S' : Store} {i j n : Nat} {o : Option Nat} {k k' : Option Nat} {c c' : Cell} {p : PV} {x y z v w : D} {m ma mb mc : DE} {a : DA} {xs ys vs : List D} {b b' : Bool} {nb nb' : DB} {s s' : DS} {g g' : DG} {gs : DGs} {ws ws' : List Nat} {ou : Out}
theorem Fits.weak {r : RS} (h : Fits f' r ou) (u : Sub f f') (hk : ∀ n c, KF.k n = some c → f n = some c) : Fits f r ou := by
  cases ou <;> cases r <;> first | exact h.elim | exact Sd.weak h u hk | skip
  · exact ⟨h.1, let ⟨E, e⟩ := h.2; ⟨E, e.weak u hk⟩⟩
  · exact let ⟨n, E, a, b, d⟩ := h; ⟨n, E, a, u.none b, d.weak (u.addS n _) fun k d e => by rw [Fr.add_ne f (fun z => by rw [z] at e; have q := u _ _ (hk _ _ e); rw [b] at q; cases q)]; exact hk k d e⟩
  · exact ⟨h.1, h.2.weak u hk⟩
theorem retE (h : m E S = .ok v S') : dRet m E S = .rt v S' := by rw [e_ret, h, Dn.R.toS_ok]
theorem Tg.nm (i : Nat) (x : D) : Tg [i] P (gNm i) x (P.set i (.d x)) := fun f E S s => ⟨_, S, rfl, s.setD i x, by simp, fun j hj => by rw [List.getElem?_set_ne (fun e => hj (by simp [e]))]⟩
/-- several targets -/
def Tgs (ws : List Nat) (P : PE) (g : DGs) (xs : List D) (P' : PE) : Prop := ∀ f E S, Sd f P E S → ∃ E' S', g xs E S = .ok E' S' ∧ Sd f P' E' S' ∧ E'.length = E.length ∧ ∀ i, i ∉ ws → E'[i]? = E[i]?
theorem Tgs.nil : Tgs [] P gsNil [] P := fun f E S s => ⟨E, S, rfl, s, rfl, fun _ _ => rfl⟩
theorem Tgs.cons (h : Tg ws P g x P1) (h' : Tgs ws' P1 gs xs P') : Tgs (ws ++ ws') P (gsCons g gs) (x :: xs) P' := fun f E S s => by
  obtain ⟨E1, S1, e1, s1, l1, a1⟩ := h f E S s
  obtain ⟨E2, S2, e2, s2, l2, a2⟩ := h' f E1 S1 s1
  refine ⟨E2, S2, by rw [e_gsc, e1]; exact e2, s2, l2.trans l1, fun i hi => ?_⟩
  rw [a2 i fun z => hi (List.mem_append_right _ z), a1 i fun z => hi (List.mem_append_left _ z)]
theorem Tg.tp {n : Nat} (h : Tgs ws P gs xs P') (hl : xs.length = n := by rfl) : Tg ws P (gTp n gs) (.tup xs) P' := fun f E S s => by
  obtain ⟨E1, S1, e1, s1, l1, a1⟩ := h f E S s
  exact ⟨E1, S1, by rw [e_gtp, if_pos hl, e1], s1, l1, a1⟩
theorem Tg.tp2 (i j : Nat) (x y : D) : Tg [i, j] P (gTp 2 (gsCons (gNm i) (gsCons (gNm j) gsNil))) (.tup [x, y]) ((P.set i (.d x)).set j (.d y)) := Tg.tp (.cons (.nm i x) (.cons (.nm j y) .nil))
/-- x[i] = e of a slot's list -/
theorem Tg.sb {z : Int} (hP : P[j]? = some (.c o (.lst xs))) (h : Ex P m (.int z) P1) (hP1 : P1[j]? = some (.c o (.lst ys))) {r : Nat} (hi : ixN ys.length z = some r) : Tg [] P (gSb (dVar j) m) x (P1.set j (.c o (.lst (ys.set r x)))) := fun f E S s => by
  obtain ⟨n, e1, _⟩ := s.cell hP
  obtain ⟨S1, e2, s1⟩ := h f E S s
  obtain ⟨n', e1', e3, _⟩ := s1.cell hP1
  rw [e1] at e1'
  cases e1'
  refine ⟨E, S1.set n (.lst (ys.set r x)), ?_, s1.write hP1 e1 _, rfl, fun _ _ => rfl⟩
  have hv : dVar j E S = .ok (.ref n) S := by unfold dVar; rw [e1]
  rw [e_gsb, hv, Dn.R.bind_ok, e2, Dn.R.bind_ok, e_setL e3 hi, Dn.R.bind_ok]
/-- d[k] = e of a slot's dict -/
theorem Tg.sbT {c c' : Cell} (hP : P[j]? = some (.c o c0)) (h : Ex P m y P1) (hP1 : P1[j]? = some (.c o c)) (hl : ∀ xs, c ≠ .lst xs) (hp : putC c y x = some c') : Tg [] P (gSb (dVar j) m) x (P1.set j (.c o c')) := fun f E S s => by
  obtain ⟨n, e1, _⟩ := s.cell hP
  obtain ⟨S1, e2, s1⟩ := h f E S s
  obtain ⟨n', e1', e3, _⟩ := s1.cell hP1
  rw [e1] at e1'
  cases e1'
  refine ⟨E, S1.set n c', ?_, s1.write hP1 e1 _, rfl, fun _ _ => rfl⟩
  have hv : dVar j E S = .ok (.ref n) S := by unfold dVar; rw [e1]
  have hs : vSet (.ref n) y x S1 = .ok () (S1.set n c') := by
    unfold vSet
    dsimp only
    rw [e3]
    cases c with
    | lst xs => exact absurd rfl (hl xs)
    | _ => dsimp only; rw [hp]
  rw [e_gsb, hv, Dn.R.bind_ok, e2, Dn.R.bind_ok, hs, Dn.R.bind_ok]
theorem QS.next : QS P dNext (.nx P) := fun f E S s => s
theorem QS.seq (h : QS P s (.nx P1)) (h' : QS P1 s' ou) : QS P (dSeq s s') ou := fun f E S t => by
  have q := h f E S t
  rw [e_seq]
  cases e : s E S with
  | nx E1 S1 => rw [e] at q; exact h' f E1 S1 q
  | _ => rw [e] at q; exact q.elim
/-- what leaves, leaves -/
def Out.left : Out → Bool
  | .nx _ => false
  | _ => true
theorem QS.seqL (h : QS P s ou) (hl : ou.left = true := by rfl) : QS P (dSeq s s') ou := fun f E S t => by
  have q := h f E S t
  rw [e_seq]
  cases e : s E S with
  | nx E1 S1 =>
    rw [e] at q
    cases ou with
    | nx _ => cases hl
    | _ => exact q.elim
  | _ => rw [e] at q; exact q
theorem QS.ifT (h : ExB P nb true P1) (h' : QS P1 s ou) : QS P (dIf nb s s') ou := fun f E S t => by
  obtain ⟨S1, e1, s1⟩ := h f E S t
  rw [e_if, e1, R.toS_ok, if_pos rfl]
  exact h' f E S1 s1
theorem QS.ifF (h : ExB P nb false P1) (h' : QS P1 s' ou) : QS P (dIf nb s s') ou := fun f E S t => by
  obtain ⟨S1, e1, s1⟩ := h f E S t
  rw [e_if, e1, R.toS_ok, if_neg Bool.false_ne_true]
  exact h' f E S1 s1
theorem QS.ret (h : Ex P m v P') : QS P (dRet m) (.rt v P') := fun f E S t => by
  obtain ⟨S1, e1, s1⟩ := h f E S t
  rw [retE e1]
  exact ⟨rfl, E, s1⟩
/-- a slot's own list, handed back -/
theorem QS.retV (hP : P[i]? = some (.c none c)) : QS P (dRet (dVar i)) (.rn c (P.set i .any)) := fun f E S t => by
  obtain ⟨n, e1, e2, e3, _⟩ := t.cell hP
  have hv : dVar i E S = .ok (.ref n) S := by unfold dVar; rw [e1]
  rw [retE hv]
  refine ⟨n, E, rfl, e3, ?_⟩
  have t1 := t.forget i
  refine ⟨t1.len, fun k d e => ?_, fun j p e => ?_, t1.sep, fun k d e => by rw [Fr.add_ne f (fun z => by rw [z] at e; rw [t.kn _ _ e] at e3; cases e3)]; exact t.kn k d e⟩
  · by_cases q : k = n
    · subst q; rw [Fr.add_same] at e; cases e; exact e2
    · rw [Fr.add_ne f q] at e; exact t1.fr k d e
  · have q := t1.at_ j p e
    cases p with
    | any => trivial
    | d v => exact q
    | c o' c'' =>
      obtain ⟨r, a, b, d⟩ := q
      refine ⟨r, a, b, ?_, d.2⟩
      rcases getS e with ⟨_, z, _⟩ | ⟨hne, e⟩
      · cases z
      · rw [Fr.add_ne f (fun z => hne (t.sep i j _ _ _ _ n hP e e1 (by rw [a, z])))]
        exact d.1
theorem QS.asg (h : Ex P m v P1) : QS P (dAsg m (gNm i)) (.nx (P1.set i (.d v))) := fun f E S t => by
  obtain ⟨S1, e1, s1⟩ := h f E S t
  rw [e_asg, e1, R.toS_ok]
  exact s1.setD i v
theorem QS.asgN (h : ExN P m c P1) : QS P (dAsg m (gNm i)) (.nx (P1.set i (.c none c))) := fun f E S t => by
  obtain ⟨n, S1, e1, hn, s1⟩ := h f E S t
  rw [e_asg, e1, R.toS_ok]
  exact s1.take hn t.kn i
theorem QS.asgT (h : Ex P m v P1) (hg : Tg ws P1 g v P2) : QS P (dAsg m g) (.nx P2) := fun f E S t => by
  obtain ⟨S1, e1, s1⟩ := h f E S t
  obtain ⟨E2, S2, e2, s2, _⟩ := hg f E S1 s1
  rw [e_asg, e1, R.toS_ok, e2]
  exact s2
theorem QS.drop (h : Ex P m v P1) : QS P (dDrop m) (.nx P1) := fun f E S t => by
  obtain ⟨S1, e1, s1⟩ := h f E S t
  rw [e_drop, e1, R.toS_ok]
  exact s1
theorem QS.forget (i : Nat) (h : QS (P.set i .any) s ou) : QS P s ou := fun f E S t => h f E S (t.forget i)
theorem QS.pre (h : QS P1 s ou) (hp : ∀ f E S, Sd f P E S → Sd f P1 E S) : QS P s ou := fun f E S t => h f E S (hp f E S t)
theorem QS.post (h : QS P s (.nx P1)) (hp : ∀ f E S, Sd f P1 E S → Sd f P2 E S) : QS P s (.nx P2) := fun f E S t => by
  have q := h f E S t
  cases e : s E S with
  | nx E1 S1 => rw [e] at q; exact hp f E1 S1 q
  | _ => rw [e] at q; exact q.elim
theorem QS.name (hP : P[i]? = some (.c o c)) (h : ∀ n, QS (P.set i (.c (some n) c)) s ou) : QS P s ou := fun f E S t => by
  obtain ⟨n, t1⟩ := t.name hP
  exact h n f E S t1
/-! ### methods of a slot's list -/
theorem recvL (h : S[n]? = some (.lst xs)) : recv "list" (.ref n) S = true := by
  unfold recv
  dsimp only
  rw [h]
  rfl
theorem Ex.append (hP : P[j]? = some (.c o (.lst xs))) (h : Ex P m v P1) (hP1 : P1[j]? = some (.c o (.lst ys))) (hl : ys.length < sizeLine) : Ex P (dMeth "list" mAppend (dVar j) (aCons m aNil)) .non (P1.set j (.c o (.lst (ys ++ [v])))) := fun f E S s => by
  obtain ⟨n, e1, e2, _⟩ := s.cell hP
  obtain ⟨S1, e3, s1⟩ := h f E S s
  obtain ⟨n', e1', e4, _⟩ := s1.cell hP1
  rw [e1] at e1'
  cases e1'
  have hv : dVar j E S = .ok (.ref n) S := by unfold dVar; rw [e1]
  refine ⟨_, ?_, s1.write hP1 e1 _⟩
  rw [e_meth, hv, Dn.R.bind_ok, recvL e2, if_pos rfl, e_acons, e3, Dn.R.bind_ok, e_anil, Dn.R.bind_ok, Dn.R.bind_ok]
  unfold mAppend
  dsimp only
  rw [e4]
  dsimp only
  rw [if_pos hl]
theorem QS.append (hP : P[j]? = some (.c o (.lst xs))) (h : Ex P m v P1) (hP1 : P1[j]? = some (.c o (.lst ys))) (hl : ys.length < sizeLine) : QS P (dDrop (dMeth "list" mAppend (dVar j) (aCons m aNil))) (.nx (P1.set j (.c o (.lst (ys ++ [v]))))) := .drop (.append hP h hP1 hl)
theorem Ex.extend (hP : P[j]? = some (.c o (.lst xs))) (h : Hd P m k (.lst vs) P1) (hk : Keep P1 (.lst vs) k) (hP1 : P1[j]? = some (.c o (.lst ys))) (hl : ys.length + vs.length ≤ sizeLine) : Ex P (dMeth "list" mExtend (dVar j) (aCons m aNil)) .non (P1.set j (.c o (.lst (ys ++ vs)))) := fun f E S s => by
  obtain ⟨n, e1, e2, _⟩ := s.cell hP
  obtain ⟨r, S1, e3, s1, h1⟩ := h.keep hk s
  obtain ⟨n', e1', e4, _⟩ := s1.cell hP1
  rw [e1] at e1'
  cases e1'
  have hv : dVar j E S = .ok (.ref n) S := by unfold dVar; rw [e1]
  refine ⟨_, ?_, s1.write hP1 e1 _⟩
  rw [e_meth, hv, Dn.R.bind_ok, recvL e2, if_pos rfl, e_acons, e3, Dn.R.bind_ok, e_anil, Dn.R.bind_ok, Dn.R.bind_ok]
  unfold mExtend
  dsimp only
  rw [e4, h1]
  dsimp only
  rw [if_pos hl]
theorem Ex.pop (hP : P[j]? = some (.c o (.lst xs))) (hx : xs[xs.length - 1]? = some v) : Ex P (dMeth "list" mPop (dVar j) aNil) v (P.set j (.c o (.lst xs.dropLast))) := fun f E S s => by
  obtain ⟨n, e1, e2, _⟩ := s.cell hP
  have hv : dVar j E S = .ok (.ref n) S := by unfold dVar; rw [e1]
  refine ⟨_, ?_, s.write hP e1 _⟩
  rw [e_meth, hv, Dn.R.bind_ok, recvL e2, if_pos rfl, e_anil, Dn.R.bind_ok]
  unfold mPop
  dsimp only
  rw [e2]
  dsimp only
  rw [hx]
/-- a method of a slot's cell that reads alone -/
theorem Ex.methR {T : String} {t : D → List D → Store → R D} (hP : P[j]? = some (.c o c)) (hr : ∀ S n, S[n]? = some c → recv T (.ref n) S = true) (h : ExA P a xs P1) (hP1 : P1[j]? = some (.c o c')) (ht : ∀ S n, S[n]? = some c' → t (.ref n) xs S = .ok v S) : Ex P (dMeth T t (dVar j) a) v P1 := fun f E S s => by
  obtain ⟨n, e1, e2, _⟩ := s.cell hP
  obtain ⟨S1, e3, s1⟩ := h f E S s
  obtain ⟨n', e1', e4, _⟩ := s1.cell hP1
  rw [e1] at e1'
  cases e1'
  have hv : dVar j E S = .ok (.ref n) S := by unfold dVar; rw [e1]
  exact ⟨S1, by rw [e_meth, hv, Dn.R.bind_ok, hr _ _ e2, if_pos rfl, e3, Dn.R.bind_ok, ht _ _ e4], s1⟩
/-! ### walks -/
def It (P : PE) (it : DI) (xs : List D) (P1 : PE) (W : PE → Prop) : Prop := ∀ f E S, Sd f P E S → ∃ S' chk f', it E S = .ok (xs, chk) S' ∧ Sd f' P1 E S' ∧ Sub f f' ∧ ∀ P2 E2 S2, W P2 → Sd f' P2 E2 S2 → chk S2 = true
abbrev WT : PE → Prop := fun _ => True
theorem It.of (h : ∀ f E S, Sd f P E S → ∃ S', it E S = .ok (xs, fun _ => true) S' ∧ Sd f P1 E S') : It P it xs P1 WT := fun f E S s => by
  obtain ⟨S1, e1, s1⟩ := h f E S s
  exact ⟨S1, _, f, e1, s1, Sub.refl f, fun _ _ _ _ _ => rfl⟩
theorem It.tup (h : Ex P m (.tup xs) P1) : It P (iVal m) xs P1 WT := .of fun f E S s => by
  obtain ⟨S1, e1, s1⟩ := h f E S s
  exact ⟨S1, by unfold iVal; rw [e1, Dn.R.bind_ok]; rfl, s1⟩
theorem It.str {u : Str} (h : Ex P m (.str u) P1) : It P (iVal m) (strD u) P1 WT := .of fun f E S s => by
  obtain ⟨S1, e1, s1⟩ := h f E S s
  exact ⟨S1, by unfold iVal; rw [e1, Dn.R.bind_ok]; rfl, s1⟩
theorem It.range {r : Nat} (h : Ex P m (.int (r : Nat)) P1) (hr : r ≤ 1000000) : It P (iRange1 (aCons m aNil)) (rngD 0 r) P1 WT := .of fun f E S s => by
  obtain ⟨S1, e1, s1⟩ := h f E S s
  refine ⟨S1, ?_, s1⟩
  unfold iRange1
  rw [e_acons, e1, Dn.R.bind_ok, e_anil, Dn.R.bind_ok, Dn.R.bind_ok]
  dsimp only
  rw [if_pos (small_nat hr)]
theorem It.enum (h : Ex P m (.tup xs) P1) : It P (iEnumD (aCons m aNil)) (enumD 0 xs) P1 WT := .of fun f E S s => by
  obtain ⟨S1, e1, s1⟩ := h f E S s
  refine ⟨S1, ?_, s1⟩
  unfold iEnumD
  rw [e_acons, e1, Dn.R.bind_ok, e_anil, Dn.R.bind_ok, Dn.R.bind_ok]
  rfl
theorem It.zip (h : Ex P ma (.tup xs) P1) (h' : Ex P1 mb (.tup ys) P2) : It P (iZipD (aCons ma (aCons mb aNil))) (zipD xs ys) P2 WT := .of fun f E S s => by
  obtain ⟨S1, e1, s1⟩ := h f E S s
  obtain ⟨S2, e2, s2⟩ := h' f E S1 s1
  refine ⟨S2, ?_, s2⟩
  unfold iZipD
  rw [e_acons, e1, Dn.R.bind_ok, e_acons, e2, Dn.R.bind_ok, e_anil, Dn.R.bind_ok, Dn.R.bind_ok, Dn.R.bind_ok]
  rfl
theorem isLst_of (h : S[n]? = some (.lst xs)) : isLst S n xs = true := by
  unfold isLst
  rw [h]
  simp
/-- a new list -/
theorem It.new (h : ExN P m (.lst xs) P1) : It P (iVal m) xs P1 WT := fun f E S s => by
  obtain ⟨n, S1, e1, hn, s1⟩ := h f E S s
  refine ⟨S1, fun S2 => isLst S2 n xs, _, ?_, s1, Sub.add hn, fun P2 E2 S2 _ s2 => isLst_of s2.addc⟩
  unfold iVal
  rw [e1, Dn.R.bind_ok]
  unfold seqOf
  dsimp only
  rw [s1.addc]
/-- a slot's list, its number told: it stays as it is meanwhile -/
def WL (j n : Nat) (xs : List D) : PE → Prop := fun P => P[j]? = some (.c (some n) (.lst xs))
theorem It.own (hP : P[j]? = some (.c (some n) (.lst xs))) : It P (iVal (dVar j)) xs P (WL j n xs) := fun f E S s => by
  obtain ⟨n', e1, e2, e3, e4⟩ := s.cell hP
  obtain rfl := e4 n rfl
  refine ⟨S, fun S2 => isLst S2 n' xs, f, ?_, s, Sub.refl f, fun P2 E2 S2 w s2 => ?_⟩
  · have hv : dVar j E S = .ok (.ref n') S := by unfold dVar; rw [e1]
    unfold iVal
    rw [hv, Dn.R.bind_ok]
    unfold seqOf
    dsimp only
    rw [e2]
  · obtain ⟨n2, a, b, c, d⟩ := s2.cell w
    obtain rfl := d n' rfl
    exact isLst_of b
theorem It.enumOwn (hP : P[j]? = some (.c (some n) (.lst xs))) : It P (iEnumD (aCons (dVar j) aNil)) (enumD 0 xs) P (WL j n xs) := fun f E S s => by
  obtain ⟨n', e1, e2, e3, e4⟩ := s.cell hP
  obtain rfl := e4 n rfl
  refine ⟨S, fun S2 => isLst S2 n' xs, f, ?_, s, Sub.refl f, fun P2 E2 S2 w s2 => ?_⟩
  · have hv : dVar j E S = .ok (.ref n') S := by unfold dVar; rw [e1]
    unfold iEnumD
    rw [e_acons, hv, Dn.R.bind_ok, e_anil, Dn.R.bind_ok, Dn.R.bind_ok]
    dsimp only
    unfold seq2Of
    dsimp only
    rw [e2]
    rfl
  · obtain ⟨n2, a, b, c, d⟩ := s2.cell w
    obtain rfl := d n' rfl
    exact isLst_of b
/-! ### loops -/
def LoopO (J : PE → Prop) (Post : Out → Prop) : Out → Prop
  | .nx P => J P
  | .ct P => J P
  | .bk P => Post (.nx P)
  | o => Post o
theorem for_out {W : PE → Prop} {it : DI} (I : Nat → PE → Prop) (Post : Out → Prop) (hW : ∀ i P, I i P → W P) : ∀ (xs : List D) (i : Nat) (P : PE), I i P →
    (∀ P, I (i + xs.length) P → Post (.nx P)) → (∀ r x P, xs[r]? = some x → I (i + r) P → ∃ ws P2, Tg ws P g x P2 ∧ ∃ o, QS P2 s o ∧ LoopO (I (i + r + 1)) Post o) →
    ∃ o, Post o ∧ ∀ f chk, (∀ P2 E2 S2, W P2 → Sd f P2 E2 S2 → chk S2 = true) → ∀ E S, Sd f P E S → Fits f (forL chk g s xs E S) o
  | [], i, P, h, he, _ => ⟨.nx P, he P h, fun f chk hc E S t => by
    unfold forL
    rw [if_pos (hc P E S (hW _ _ h) t)]
    exact t⟩
  | x :: xs, i, P, h, he, hs => by
    obtain ⟨ws, P2, tg, o, q, lo⟩ := hs 0 x P rfl h
    have go : ∀ P3, I (i + 1) P3 → ∃ o, Post o ∧ ∀ f chk, (∀ P2 E2 S2, W P2 → Sd f P2 E2 S2 → chk S2 = true) → ∀ E S, Sd f P3 E S → Fits f (forL chk g s xs E S) o := fun P3 h3 =>
      for_out (it := it) I Post hW xs (i + 1) P3 h3 (fun P hp => he P (by rw [List.length_cons]; rw [show i + (xs.length + 1) = i + 1 + xs.length by omega]; exact hp)) fun r y P hy hi => by
        have := hs (r + 1) y P (by simpa using hy) (by rw [show i + (r + 1) = i + 1 + r by omega]; exact hi)
        rw [show i + (r + 1) + 1 = i + 1 + r + 1 by omega] at this
        exact this
    have fin : ∀ o', (∀ f E S, Sd f P2 E S → Fits f (s E S) o) → (∀ f chk, (∀ P2 E2 S2, W P2 → Sd f P2 E2 S2 → chk S2 = true) → ∀ E S, Fits f (s E S) o → Fits f (match s E S with
      | .nx env2 st2 => forL chk g s xs env2 st2
      | .ct env2 st2 => forL chk g s xs env2 st2
      | .bk env2 st2 => .nx env2 st2
      | r => r) o') → ∀ f chk, (∀ P2 E2 S2, W P2 → Sd f P2 E2 S2 → chk S2 = true) → ∀ E S, Sd f P E S → Fits f (forL chk g s (x :: xs) E S) o' := fun o' h1 h2 f chk hc E S t => by
      obtain ⟨E1, S1, e1, t1, _⟩ := tg f E S t
      unfold forL
      rw [if_pos (hc P E S (hW _ _ h) t), e1]
      dsimp only
      have := h2 f chk hc E1 S1 (h1 f E1 S1 t1)
      cases hq : s E1 S1 <;> (rw [hq] at this; exact this)
    cases o with
    | nx P3 =>
      obtain ⟨o', hp, hf⟩ := go P3 lo
      refine ⟨o', hp, fin o' q fun f chk hc E S ft => ?_⟩
      cases hq : s E S with
      | nx E3 S3 => rw [hq] at ft; exact hf f chk hc E3 S3 ft
      | _ => rw [hq] at ft; exact ft.elim
    | ct P3 =>
      obtain ⟨o', hp, hf⟩ := go P3 lo
      refine ⟨o', hp, fin o' q fun f chk hc E S ft => ?_⟩
      cases hq : s E S with
      | ct E3 S3 => rw [hq] at ft; exact hf f chk hc E3 S3 ft
      | _ => rw [hq] at ft; exact ft.elim
    | bk P3 =>
      refine ⟨.nx P3, lo, fin _ q fun f chk hc E S ft => ?_⟩
      cases hq : s E S with
      | bk E3 S3 => rw [hq] at ft; exact ft
      | _ => rw [hq] at ft; exact ft.elim
    | rt v P3 =>
      refine ⟨.rt v P3, lo, fin _ q fun f chk hc E S ft => ?_⟩
      cases hq : s E S with
      | rt _ _ => rw [hq] at ft; exact ft
      | _ => rw [hq] at ft; exact ft.elim
    | rn v P3 =>
      refine ⟨.rn v P3, lo, fin _ q fun f chk hc E S ft => ?_⟩
      cases hq : s E S with
      | rt _ _ => rw [hq] at ft; exact ft
      | _ => rw [hq] at ft; exact ft.elim
    | ex v P3 =>
      refine ⟨.ex v P3, lo, fin _ q fun f chk hc E S ft => ?_⟩
      cases hq : s E S with
      | ex _ _ _ => rw [hq] at ft; exact ft
      | _ => rw [hq] at ft; exact ft.elim
/-- a loop, by what holds ahead of each turn -/
theorem QS.forP {W : PE → Prop} {it : DI} (I : Nat → PE → Prop) (Post : Out → Prop) (hi : It P it xs P1 W) (h0 : I 0 P1) (hW : ∀ i P, I i P → W P) (he : ∀ P, I xs.length P → Post (.nx P))
    (step : ∀ r x P, xs[r]? = some x → I r P → ∃ ws P2, Tg ws P g x P2 ∧ ∃ o, QS P2 s o ∧ LoopO (I (r + 1)) Post o) : ∃ o, Post o ∧ QS P (dFor it g s) o := by
  obtain ⟨o, hp, hf⟩ := for_out (g := g) (s := s) (it := it) I Post hW xs 0 P1 h0 (by simpa using he) (by simpa using step)
  refine ⟨o, hp, fun f E S t => ?_⟩
  obtain ⟨S1, chk, f', e1, t1, u, hc⟩ := hi f E S t
  rw [e_for, e1, R.toS_ok]
  exact (hf f' chk hc E S1 t1).weak u t.kn
/-- .. that goes through -/
theorem QS.forI {W : PE → Prop} {it : DI} (I : Nat → PE) (hi : It P it xs P1 W) (h0 : ∀ f E S, Sd f P1 E S → Sd f (I 0) E S) (hW : ∀ i, W (I i))
    (step : ∀ r x, xs[r]? = some x → ∃ ws P2, Tg ws (I r) g x P2 ∧ ∃ P3, QS P2 s (.nx P3) ∧ ∀ f E S, Sd f P3 E S → Sd f (I (r + 1)) E S) : QS P (dFor it g s) (.nx (I xs.length)) := by
  have hi' : It P it xs (I 0) W := fun f E S t => by
    obtain ⟨S1, chk, f', e1, t1, u, hc⟩ := hi f E S t
    exact ⟨S1, chk, f', e1, h0 _ _ _ t1, u, hc⟩
  obtain ⟨o, hp, hq⟩ := QS.forP (s := s) (g := g) (fun i P => P = I i) (fun o => o = .nx (I xs.length)) hi' rfl (fun i P e => by rw [e]; exact hW i) (fun P e => by rw [e]) fun r x P hx e => by
    subst e
    obtain ⟨ws, P2, tg, P3, q, hs⟩ := step r x hx
    exact ⟨ws, P2, tg, .nx (I (r + 1)), q.post hs, rfl⟩
  rw [hp] at hq
  exact hq
theorem while_out (I : Nat → PE → Prop) (Post : Out → Prop)
    (step : ∀ j P, I j P → ∃ b P1, ExB P nb b P1 ∧ (b = false → Post (.nx P1)) ∧ (b = true → ∃ o, QS P1 s o ∧ LoopO (fun P2 => ∃ j', j' < j ∧ I j' P2) Post o)) :
    ∀ (k j : Nat) (P : PE), I j P → j < k → ∃ o, Post o ∧ ∀ f E S, Sd f P E S → Fits f (whileL nb s k E S) o
  | 0, j, _, _, h => absurd h (Nat.not_lt_zero _)
  | k + 1, j, P, h, hj => by
    obtain ⟨b, P1, hb, hf, ht⟩ := step j P h
    cases b with
    | false =>
      refine ⟨.nx P1, hf rfl, fun f E S t => ?_⟩
      obtain ⟨S1, e1, t1⟩ := hb f E S t
      unfold whileL
      rw [e1, R.toS_ok, if_neg Bool.false_ne_true]
      exact t1
    | true =>
      obtain ⟨o, q, lo⟩ := ht rfl
      have pass : ∀ o', (∀ f E S, Fits f (s E S) o → Fits f (match s E S with
        | .nx env2 st2 => whileL nb s k env2 st2
        | .ct env2 st2 => whileL nb s k env2 st2
        | .bk env2 st2 => .nx env2 st2
        | r => r) o') → ∀ f E S, Sd f P E S → Fits f (whileL nb s (k + 1) E S) o' := fun o' h2 f E S t => by
        obtain ⟨S1, e1, t1⟩ := hb f E S t
        have := h2 f E S1 (q f E S1 t1)
        unfold whileL
        rw [e1, R.toS_ok, if_pos rfl]
        cases hq : s E S1 <;> (rw [hq] at this; exact this)
      cases o with
      | nx P3 =>
        obtain ⟨j', hj', h3⟩ := lo
        obtain ⟨o', hp, hf⟩ := while_out I Post step k j' P3 h3 (by omega)
        refine ⟨o', hp, pass o' fun f E S ft => ?_⟩
        cases hq : s E S with
        | nx E3 S3 => rw [hq] at ft; exact hf f E3 S3 ft
        | _ => rw [hq] at ft; exact ft.elim
      | ct P3 =>
        obtain ⟨j', hj', h3⟩ := lo
        obtain ⟨o', hp, hf⟩ := while_out I Post step k j' P3 h3 (by omega)
        refine ⟨o', hp, pass o' fun f E S ft => ?_⟩
        cases hq : s E S with
        | ct E3 S3 => rw [hq] at ft; exact hf f E3 S3 ft
        | _ => rw [hq] at ft; exact ft.elim
      | bk P3 =>
        refine ⟨.nx P3, lo, pass _ fun f E S ft => ?_⟩
        cases hq : s E S with
        | bk E3 S3 => rw [hq] at ft; exact ft
        | _ => rw [hq] at ft; exact ft.elim
      | rt v P3 =>
        refine ⟨.rt v P3, lo, pass _ fun f E S ft => ?_⟩
        cases hq : s E S with
        | rt _ _ => rw [hq] at ft; exact ft
        | _ => rw [hq] at ft; exact ft.elim
      | rn v P3 =>
        refine ⟨.rn v P3, lo, pass _ fun f E S ft => ?_⟩
        cases hq : s E S with
        | rt _ _ => rw [hq] at ft; exact ft
        | _ => rw [hq] at ft; exact ft.elim
      | ex v P3 =>
        refine ⟨.ex v P3, lo, pass _ fun f E S ft => ?_⟩
        cases hq : s E S with
        | ex _ _ _ => rw [hq] at ft; exact ft
        | _ => rw [hq] at ft; exact ft.elim
theorem QS.whileP (I : Nat → PE → Prop) (Post : Out → Prop) {j : Nat} (h0 : I j P) (hj : j < FU)
    (step : ∀ j P, I j P → ∃ b P1, ExB P nb b P1 ∧ (b = false → Post (.nx P1)) ∧ (b = true → ∃ o, QS P1 s o ∧ LoopO (fun P2 => ∃ j', j' < j ∧ I j' P2) Post o)) : ∃ o, Post o ∧ QS P (dWhile nb s) o := by
  obtain ⟨o, hp, hf⟩ := while_out I Post step FU j P h0 hj
  exact ⟨o, hp, fun f E S t => hf f E S t⟩
/-! ### comprehensions -/
theorem Sd.wipe (t : Sd f P E S) : ∀ vs : List Nat, Sd f (wipeP P vs) (dWipe E vs) S
  | [] => t
  | v :: vs => (Sd.wipe t vs).setAny v none
theorem wipeP_len : ∀ (vs : List Nat), (wipeP P vs).length = P.length
  | [] => rfl
  | v :: vs => by rw [wipeP, List.length_set, wipeP_len vs]
theorem wipeP_get : ∀ (vs : List Nat) (i : Nat), i < P.length → (wipeP P vs)[i]? = if i ∈ vs then some .any else P[i]?
  | [], i, _ => by simp [wipeP]
  | v :: vs, i, hi => by
    rw [wipeP]
    by_cases e : v = i
    · subst e
      rw [List.getElem?_set_self (by rw [wipeP_len]; exact hi), if_pos (List.mem_cons_self ..)]
    · rw [List.getElem?_set_ne e, wipeP_get vs i hi]
      by_cases q : i ∈ vs
      · rw [if_pos q, if_pos (List.mem_cons_of_mem _ q)]
      · rw [if_neg q, if_neg fun z => (List.mem_cons.mp z).elim (fun z => e z.symm) q]
/-- seen at slots that are otherwise at vs alone -/
theorem Sd.env (t : Sd f P E S) (hl : E'.length = E.length) (ha : ∀ i, i ∉ ws → E'[i]? = E[i]?) : Sd f (wipeP P ws) E' S := by
  have key : ∀ i p, (wipeP P ws)[i]? = some p → p = .any ∨ (i ∉ ws ∧ P[i]? = some p) := fun i p e => by
    have hi : i < P.length := by
      have := (List.getElem?_eq_some_iff.mp e).1
      rw [wipeP_len] at this
      exact this
    rw [wipeP_get ws i hi] at e
    split at e
    · cases e; exact .inl rfl
    · exact .inr ⟨by assumption, e⟩
  refine ⟨by rw [hl, wipeP_len, t.len], t.fr, fun i p e => ?_, fun i j oi oj ci cj n hi hj ei ej => ?_, t.kn⟩
  · rcases key i p e with rfl | ⟨hi, e⟩
    · trivial
    · rw [ha i hi]; exact t.at_ i p e
  · rcases key i _ hi with z | ⟨hi1, hi⟩
    · cases z
    · rcases key j _ hj with z | ⟨hj1, hj⟩
      · cases z
      · rw [ha i hi1] at ei
        rw [ha j hj1] at ej
        exact t.sep i j _ _ _ _ n hi hj ei ej
theorem dWipe_len : ∀ vs : List Nat, (dWipe E vs).length = E.length
  | [] => rfl
  | v :: vs => by rw [dWipe, List.length_set, dWipe_len vs]
theorem dWipe_get : ∀ (vs : List Nat) (i : Nat), i ∉ vs → (dWipe E vs)[i]? = E[i]?
  | [], i, _ => rfl
  | v :: vs, i, h => by
    rw [dWipe, List.getElem?_set_ne (fun e => h (by simp [e])), dWipe_get vs i fun z => h (List.mem_cons_of_mem _ z)]
/-- the slots of a comprehension are again what they were -/
def backP (P Q : PE) : List Nat → PE
  | [] => Q
  | v :: vs => match P[v]? with
    | some (.d x) => (backP P Q vs).set v (.d x)
    | _ => (backP P Q vs).set v .any
theorem Sd.back {Q : PE} (t0 : Sd f' P E S') (t : Sd f (wipeP Q ws) E S) : ∀ vs : List Nat, (∀ v ∈ ws, v ∈ vs) → Sd f (backP P Q vs) E S := by
  -- the least: all slots of vs forgotten
  have low : ∀ vs : List Nat, (∀ v ∈ ws, v ∈ vs) → Sd f (wipeP Q vs) E S := fun vs hv => by
    have h1 : Sd f (wipeP (wipeP Q ws) vs) E S := by
      have : ∀ us : List Nat, Sd f (wipeP (wipeP Q ws) us) E S := fun us => by
        induction us with
        | nil => exact t
        | cons u us ih => exact ih.forget u
      exact this vs
    have e : wipeP (wipeP Q ws) vs = wipeP Q vs := by
      apply List.ext_getElem?
      intro i
      by_cases hi : i < Q.length
      · rw [wipeP_get vs i (by rw [wipeP_len]; exact hi), wipeP_get vs i hi, wipeP_get ws i hi]
        by_cases h : i ∈ vs
        · rw [if_pos h, if_pos h]
        · rw [if_neg h, if_neg h, if_neg fun z => h (hv i z)]
      · rw [List.getElem?_eq_none (by rw [wipeP_len, wipeP_len]; omega), List.getElem?_eq_none (by rw [wipeP_len]; omega)]
    rw [e] at h1
    exact h1
  intro vs hv
  have h := low vs hv
  have step : ∀ us : List Nat, (∀ R : PE, Sd f R E S → Sd f (backP P R us) E S) := fun us => by
    induction us with
    | nil => exact fun R h => h
    | cons u us ih =>
      intro R h
      unfold backP
      split
      · rename_i x hx
        exact (ih R h).know (t0.data hx)
      · exact (ih R h).forget u
  have e : backP P (wipeP Q vs) vs = backP P Q vs := by
    have len : ∀ (us : List Nat) (R : PE), (backP P R us).length = R.length := fun us R => by
      induction us with
      | nil => rfl
      | cons u us ih => unfold backP; split <;> rw [List.length_set, ih]
    have get : ∀ (us : List Nat) (R R' : PE), R.length = R'.length → (∀ i, i ∉ us → R[i]? = R'[i]?) → backP P R us = backP P R' us := fun us => by
      induction us with
      | nil => exact fun R R' hl ha => List.ext_getElem? fun i => ha i (by simp)
      | cons u us ih =>
        intro R R' hl ha
        have go : ∀ p : PV, (backP P R us).set u p = (backP P R' us).set u p := fun p => by
          by_cases hu : u ∈ us
          · rw [ih R R' hl fun i hi => ha i fun z => (List.mem_cons.mp z).elim (fun z => hi (by rw [z]; exact hu)) hi]
          · have e1 : ∀ (Z : PE) (us : List Nat), u ∉ us → backP P (Z.set u p) us = (backP P Z us).set u p := fun Z us => by
              induction us with
              | nil => exact fun _ => rfl
              | cons w us ih =>
                intro h
                have hw : u ≠ w := fun z => h (by simp [z])
                unfold backP
                rw [ih fun z => h (List.mem_cons_of_mem _ z)]
                split <;> rw [List.set_comm _ _ hw]
            rw [← e1 R us hu, ← e1 R' us hu]
            refine ih _ _ (by simp [hl]) fun i hi => ?_
            by_cases z : u = i
            · subst z
              by_cases hlt : u < R.length
              · rw [List.getElem?_set_self hlt, List.getElem?_set_self (by rw [← hl]; exact hlt)]
              · rw [List.getElem?_eq_none (by simp; omega), List.getElem?_eq_none (by simp; omega)]
            · rw [List.getElem?_set_ne z, List.getElem?_set_ne z]
              exact ha i fun q => (List.mem_cons.mp q).elim (fun q => z q.symm) hi
        unfold backP
        split <;> exact go _
    refine get vs _ _ (wipeP_len vs) fun i hi => ?_
    by_cases hlt : i < Q.length
    · rw [wipeP_get vs i hlt, if_neg hi]
    · rw [List.getElem?_eq_none (by rw [wipeP_len]; omega), List.getElem?_eq_none (by omega)]
  rw [← e]
  exact step vs _ h
theorem lc_out {W : PE → Prop} {it : DI} {tt : DB} {te : DE} {ws : List Nat} (I : Nat → PE → List D → Prop) (hW : ∀ i P acc, I i P acc → W P) : ∀ (xs : List D) (i : Nat) (P : PE) (acc : List D), I i P acc →
    (∀ r x P acc, xs[r]? = some x → I (i + r) P acc → acc.length < sizeLine ∧ ∃ P1, Tg ws P g x P1 ∧ ∃ b P2, ExB P1 tt b P2 ∧ (b = false → I (i + r + 1) (wipeP P2 ws) acc) ∧ (b = true → ∃ y P3, Ex P2 te y P3 ∧ I (i + r + 1) (wipeP P3 ws) (acc ++ [y]))) →
    ∃ Q acc', I (i + xs.length) Q acc' ∧ ∀ f chk, (∀ P2 E2 S2, W P2 → Sd f P2 E2 S2 → chk S2 = true) → ∀ E S, Sd f P E S → ∃ S', lcL chk g tt te E xs acc S = .ok acc' S' ∧ Sd f Q E S'
  | [], i, P, acc, h, _ => ⟨P, acc, h, fun f chk hc E S t => ⟨S, by unfold lcL; rw [if_pos (hc P E S (hW _ _ _ h) t)], t⟩⟩
  | x :: xs, i, P, acc, h, hs => by
    obtain ⟨hl, P1, tg, b, P2, hb, hf, ht⟩ := hs 0 x P acc rfl h
    have go : ∀ P3 acc3, I (i + 1) P3 acc3 → ∃ Q acc', I (i + (xs.length + 1)) Q acc' ∧ ∀ f chk, (∀ P2 E2 S2, W P2 → Sd f P2 E2 S2 → chk S2 = true) → ∀ E S, Sd f P3 E S → ∃ S', lcL chk g tt te E xs acc3 S = .ok acc' S' ∧ Sd f Q E S' := fun P3 acc3 h3 => by
      obtain ⟨Q, acc', hq, k⟩ := lc_out (it := it) (tt := tt) (te := te) (ws := ws) I hW xs (i + 1) P3 acc3 h3 fun r y P acc hy hi => by
        have := hs (r + 1) y P acc (by simpa using hy) (by rw [show i + (r + 1) = i + 1 + r by omega]; exact hi)
        rw [show i + (r + 1) + 1 = i + 1 + r + 1 by omega] at this
        exact this
      exact ⟨Q, acc', by rw [show i + (xs.length + 1) = i + 1 + xs.length by omega]; exact hq, k⟩
    cases b with
    | false =>
      obtain ⟨Q, acc', hq, k⟩ := go _ _ (hf rfl)
      refine ⟨Q, acc', hq, fun f chk hc E S t => ?_⟩
      obtain ⟨E1, S1, e1, t1, l1, a1⟩ := tg f E S t
      obtain ⟨S2, e2, t2⟩ := hb f E1 S1 t1
      obtain ⟨S', e3, t3⟩ := k f chk hc E S2 (t2.env l1.symm fun i hi => (a1 i hi).symm)
      refine ⟨S', ?_, t3⟩
      unfold lcL
      rw [if_pos (hc P E S (hW _ _ _ h) t), e1]
      dsimp only
      rw [e2]
      exact e3
    | true =>
      obtain ⟨y, P3, hy, h3⟩ := ht rfl
      obtain ⟨Q, acc', hq, k⟩ := go _ _ h3
      refine ⟨Q, acc', hq, fun f chk hc E S t => ?_⟩
      obtain ⟨E1, S1, e1, t1, l1, a1⟩ := tg f E S t
      obtain ⟨S2, e2, t2⟩ := hb f E1 S1 t1
      obtain ⟨S3, e3, t3⟩ := hy f E1 S2 t2
      obtain ⟨S', e4, t4⟩ := k f chk hc E S3 (t3.env l1.symm fun i hi => (a1 i hi).symm)
      refine ⟨S', ?_, t4⟩
      unfold lcL
      rw [if_pos (hc P E S (hW _ _ _ h) t), e1]
      dsimp only
      rw [e2]
      dsimp only
      rw [e3]
      dsimp only
      rw [if_pos hl]
      exact e4
/-- a list comprehension of one clause, data its items -/
theorem ExN.lcP {W : PE → Prop} {it : DI} {tt : DB} {te : DE} {ws vs : List Nat} (I : Nat → PE → List D → Prop) (hi : It P it xs P1 W) (h0 : I 0 (wipeP P1 vs) []) (hW : ∀ i P acc, I i P acc → W P) (hv : ∀ v ∈ ws, v ∈ vs)
    (step : ∀ r x P acc, xs[r]? = some x → I r P acc → acc.length < sizeLine ∧ ∃ P1, Tg ws P g x P1 ∧ ∃ b P2, ExB P1 tt b P2 ∧ (b = false → I (r + 1) (wipeP P2 ws) acc) ∧ (b = true → ∃ y P3, Ex P2 te y P3 ∧ I (r + 1) (wipeP P3 ws) (acc ++ [y]))) :
    ∃ Q acc, I xs.length Q acc ∧ ExN P (dLc it g tt te vs) (.lst acc) (backP P1 Q vs) := by
  obtain ⟨Q, acc, hq, k⟩ := lc_out (g := g) (tt := tt) (te := te) (ws := ws) (it := it) I hW xs 0 (wipeP P1 vs) [] h0 (by simpa using step)
  rw [Nat.zero_add] at hq
  refine ⟨Q, acc, hq, fun f E S t => ?_⟩
  obtain ⟨S1, chk, f', e1, t1, u, hc⟩ := hi f E S t
  obtain ⟨S2, e2, t2⟩ := k f' chk hc (dWipe E vs) S1 (t1.wipe vs)
  have t3 : Sd f' (wipeP Q vs) E S2 := t2.env (dWipe_len vs).symm fun i hi => (dWipe_get vs i hi).symm
  have t4 := Sd.back (P := P1) t1 t3 vs fun v h => h
  obtain ⟨q1, q2⟩ := (t4.weak u t.kn).newAt (g := [.lst acc]) (n := S2.length) (c := .lst acc) (Nat.le_refl _) (by simp)
  refine ⟨_, _, ?_, q1, q2⟩
  unfold dLc
  rw [e1, Dn.R.bind_ok]
  dsimp only
  rw [e2, Dn.R.bind_ok]
  rfl
/-- .. that maps, changing nothing -/
theorem ExN.lc {α : Type} {l : List α} {h : α → D} {W : PE → Prop} {it : DI} {te : DE} {ws vs : List Nat} (F : α → D) (hi : It P it (l.map h) P1 W) (hl : l.length ≤ sizeLine) (hW : W (wipeP P1 vs)) (hv : ∀ v ∈ ws, v ∈ vs)
    (step : ∀ x ∈ l, ∃ P2, Tg ws (wipeP P1 vs) g (h x) P2 ∧ Ex P2 te (F x) P2 ∧ wipeP P2 ws = wipeP P1 vs) : ExN P (dLc it g dYes te vs) (.lst (l.map F)) (backP P1 (wipeP P1 vs) vs) := by
  obtain ⟨Q, acc, ⟨rfl, e⟩, k⟩ := ExN.lcP (g := g) (tt := dYes) (te := te) (fun i P acc => P = wipeP P1 vs ∧ acc = (l.take i).map F) hi ⟨rfl, by simp⟩ (fun i P acc e => by rw [e.1]; exact hW) hv (by
    rintro r x P acc hx ⟨rfl, rfl⟩
    rw [List.getElem?_map] at hx
    obtain ⟨a, ha, rfl⟩ := Option.map_eq_some_iff.mp hx
    obtain ⟨P2, tg, he, hw⟩ := step a (List.mem_of_getElem? ha)
    have hr : r < l.length := (List.getElem?_eq_some_iff.mp ha).1
    refine ⟨by simp; omega, P2, tg, true, P2, ExB.yes, fun z => (by cases z), fun _ => ⟨F a, P2, he, hw, ?_⟩⟩
    rw [List.take_add_one, ha]
    simp)
  rw [List.length_map, List.take_length] at e
  rw [e] at k
  exact k
end
end Qn
set_option Elab.async false
set_option linter.all false
set_option maxHeartbeats 1000000
set_option maxRecDepth 100000
/-! Qn4: defs by what is known of the slots -/
namespace Qn
open PySem PySem.Spec L2 Dn Pn
def addrs : List PV → List Nat
  | [] => []
  | .c (some n) _ :: ps => n :: addrs ps
  | .c none _ :: ps => addrs ps
  | .d _ :: ps => addrs ps
  | .any :: ps => addrs ps
def fOf (S : Store) (as : List Nat) : Fr := fun j => if j ∈ as then none else S[j]?
def ArgP (S : Store) (x : D) : PV → Prop
  | .any => True
  | .d v => x = v
  | .c (some n) c => x = .ref n ∧ S[n]? = some c
  | .c none _ => False
def ArgsP (S : Store) : List D → List PV → Prop
  | [], [] => True
  | x :: xs, p :: ps => ArgP S x p ∧ ArgsP S xs ps
  | _, _ => False
section
variable {f : Fr} {P P' : PE} {Ps : List PV} {E E' : Dn.Env} {S S' : Store} {i j n a k : Nat} {o : Option Nat} {c c' : Cell} {p : PV} {x v : D} {xs vs : List D} {m : DS} {ou : Out}
theorem ArgsP.len : ∀ {xs : List D} {ps : List PV}, ArgsP S xs ps → xs.length = ps.length
  | [], [], _ => rfl
  | _ :: _, _ :: _, h => by rw [List.length_cons, List.length_cons, h.2.len]
theorem ArgsP.get : ∀ {xs : List D} {ps : List PV} {i : Nat} {p : PV}, ArgsP S xs ps → ps[i]? = some p → ∃ x, xs[i]? = some x ∧ ArgP S x p
  | [], [], _, _, _, e => by simp at e
  | x :: xs, q :: ps, 0, p, h, e => by simp at e; subst e; exact ⟨x, rfl, h.1⟩
  | x :: xs, q :: ps, i + 1, p, h, e => by
    obtain ⟨y, h1, h2⟩ := ArgsP.get (i := i) h.2 (by simpa using e)
    exact ⟨y, by simpa using h1, h2⟩
theorem addrs_mem : ∀ {ps : List PV} {i n : Nat} {c : Cell}, ps[i]? = some (.c (some n) c) → n ∈ addrs ps
  | [], _, _, _, e => by simp at e
  | q :: ps, 0, n, c, e => by simp at e; subst e; exact List.mem_cons_self ..
  | q :: ps, i + 1, n, c, e => by
    have := addrs_mem (i := i) (ps := ps) (by simpa using e)
    cases q with
    | any => exact this
    | d v => exact this
    | c o c' => cases o with
      | none => exact this
      | some k => exact List.mem_cons_of_mem _ this
theorem addrs_get : ∀ {ps : List PV} {n : Nat}, n ∈ addrs ps → ∃ (i : Nat) (c : Cell), ps[i]? = some (.c (some n) c)
  | [], n, h => by cases h
  | q :: ps, n, h => by
    have tl : n ∈ addrs ps → ∃ (i : Nat) (c : Cell), (q :: ps)[i]? = some (.c (some n) c) := fun h => by
      obtain ⟨i, c, e⟩ := addrs_get h
      exact ⟨i + 1, c, by simpa using e⟩
    cases q with
    | any => exact tl h
    | d v => exact tl h
    | c o c' => cases o with
      | none => exact tl h
      | some k =>
        rcases List.mem_cons.mp h with rfl | h
        · exact ⟨0, c', rfl⟩
        · exact tl h
theorem addrs_uniq : ∀ {ps : List PV} {i j n : Nat} {c c' : Cell}, (addrs ps).Nodup → ps[i]? = some (.c (some n) c) → ps[j]? = some (.c (some n) c') → i = j
  | [], _, _, _, _, _, _, e, _ => by simp at e
  | q :: ps, 0, 0, _, _, _, _, _, _ => rfl
  | q :: ps, 0, j + 1, n, c, c', h, e, e' => by
    simp at e
    subst e
    exact absurd (addrs_mem (ps := ps) (i := j) (by simpa using e')) (List.nodup_cons.mp h).1
  | q :: ps, i + 1, 0, n, c, c', h, e, e' => by
    simp at e'
    subst e'
    exact absurd (addrs_mem (ps := ps) (i := i) (by simpa using e)) (List.nodup_cons.mp h).1
  | q :: ps, i + 1, j + 1, n, c, c', h, e, e' => by
    have hn : (addrs ps).Nodup := by
      cases q with
      | any => exact h
      | d v => exact h
      | c o c' => cases o with
        | none => exact h
        | some k => exact (List.nodup_cons.mp h).2
    rw [addrs_uniq (i := i) (j := j) hn (by simpa using e) (by simpa using e')]
theorem Sd.start (hx : ArgsP S xs Ps) (nd : (addrs Ps).Nodup) (k : Nat) : Sd (fOf S (addrs Ps)) (Ps ++ List.replicate k .any) (xs.map some ++ List.replicate k none) S := by
  have hl := hx.len
  have getP : ∀ {i : Nat} {p : PV}, (Ps ++ List.replicate k .any)[i]? = some p → (Ps[i]? = some p) ∨ p = .any := fun {i p} e => by
    by_cases hi : i < Ps.length
    · rw [List.getElem?_append_left hi] at e; exact .inl e
    · rw [List.getElem?_append_right (by omega)] at e
      have := List.mem_of_getElem? e
      exact .inr (List.mem_replicate.mp this).2
  have getE : ∀ {i : Nat} {x : D}, xs[i]? = some x → (xs.map some ++ List.replicate k none)[i]? = some (some x) := fun {i x} e => by
    have hi := (List.getElem?_eq_some_iff.mp e).1
    rw [List.getElem?_append_left (by simpa using hi), List.getElem?_map, e]
    rfl
  refine ⟨by simp [hl], fun n c e => ?_, fun i p e => ?_, fun i j oi oj ci cj n hi hj ei ej => ?_, fun n c e => by cases e⟩
  · unfold fOf at e
    split at e
    · cases e
    · exact e
  · rcases getP e with e | rfl
    · obtain ⟨x, h1, h2⟩ := hx.get e
      rw [getE h1]
      cases p with
      | any => trivial
      | d v => obtain rfl : x = v := h2; rfl
      | c o c => cases o with
        | none => exact h2.elim
        | some n =>
          obtain ⟨rfl, h3⟩ := h2
          exact ⟨n, rfl, h3, if_pos (addrs_mem e), fun m z => by cases z; rfl⟩
    · trivial
  · rcases getP hi with hi | z
    · rcases getP hj with hj | z
      · obtain ⟨x, h1, h2⟩ := hx.get hi
        obtain ⟨y, h3, h4⟩ := hx.get hj
        rw [getE h1] at ei
        rw [getE h3] at ej
        cases ei; cases ej
        cases oi with
        | none => exact h2.elim
        | some ni => cases oj with
          | none => exact h4.elim
          | some nj =>
            obtain ⟨z1, _⟩ := h2
            obtain ⟨z2, _⟩ := h4
            cases z1; cases z2
            exact addrs_uniq nd hi hj
      · cases z
    · cases z
/-- nothing is known of the slots any more -/
theorem QS.rtA [KF] {n : Nat} {s : DS} (h : QS P s (.rt v P')) (hl : P'.length = n := by rfl) : QS P s (.rt v (List.replicate n .any)) := fun f E S t => by
  have q := h f E S t
  cases e : s E S with
  | rt d S' =>
    rw [e] at q
    obtain ⟨q1, E', t'⟩ := q
    refine ⟨q1, E', by rw [List.length_replicate, t'.len, hl], t'.fr, fun i p e => ?_, fun i j o o' c c' n hi => ?_, t'.kn⟩
    · have := (List.mem_replicate.mp (List.mem_of_getElem? e)).2
      subst this
      trivial
    · have := (List.mem_replicate.mp (List.mem_of_getElem? hi)).2
      cases this
  | _ => rw [e] at q; exact q.elim
/-- what stands elsewhere is a prefix with other cells at the named places -/
theorem eq_set {S S' : Store} {n : Nat} {c c' : Cell} (h : S[n]? = some c) (hn : S'[n]? = some c') (ho : ∀ (j : Nat) (d : Cell), j ≠ n → S[j]? = some d → S'[j]? = some d) : ∃ g, S' = S.set n c' ++ g := by
  have hl : S.length ≤ S'.length := by
    by_cases z : S.length = 0
    · omega
    · have : ∃ d, S'[S.length - 1]? = some d := by
        by_cases q : S.length - 1 = n
        · exact ⟨c', by rw [q]; exact hn⟩
        · exact ⟨_, ho _ _ q (List.getElem?_eq_getElem (by omega))⟩
      obtain ⟨d, e⟩ := this
      have := get_lt e
      omega
  refine ⟨S'.drop S.length, ?_⟩
  have e : S.set n c' = S'.take S.length := by
    apply List.ext_getElem?
    intro j
    by_cases hj : j < S.length
    · rw [List.getElem?_take_of_lt hj]
      by_cases q : n = j
      · subst q; rw [List.getElem?_set_self hj, hn]
      · rw [List.getElem?_set_ne q, List.getElem?_eq_getElem hj, ho j _ (Ne.symm q) (List.getElem?_eq_getElem hj)]
    · rw [List.getElem?_eq_none (by simp; omega), List.getElem?_eq_none (by simp; omega)]
  rw [e, List.take_append_drop]
theorem eq_pre {S S' : Store} (ho : ∀ (j : Nat) (d : Cell), S[j]? = some d → S'[j]? = some d) : ∃ g, S' = S ++ g := by
  cases h : S[0]? with
  | none =>
    have : S = [] := by
      cases S with
      | nil => rfl
      | cons => simp at h
    exact ⟨S', by rw [this]; rfl⟩
  | some c =>
    obtain ⟨g, e⟩ := eq_set h (ho 0 c h) fun j d _ => ho j d
    rw [set_same h] at e
    exact ⟨g, e⟩
/-- a def that changes none of its arguments' cells: data -/
theorem fn_ok {m : DS} (hl : Ps.length = a) (h : QS (Ps ++ List.replicate (k - a) .any) m (.rt v P')) (hk : ∀ (i n : Nat) (c : Cell), Ps[i]? = some (.c (some n) c) → P'[i]? = some (.c (some n) c)) (hv : D.lt 0 v = true) (nd : (addrs Ps).Nodup) (hx : ArgsP S xs Ps) : trimF (dDef a k m) xs S = .ok v S := by
  have q := h _ _ _ (Sd.start hx nd (k - a))
  cases e : m (xs.map some ++ List.replicate (k - a) none) S with
  | rt d S' =>
    rw [e] at q
    obtain ⟨rfl, E', t⟩ := q
    obtain ⟨g, rfl⟩ := eq_pre (S := S) (S' := S') fun j d hj => by
      by_cases z : j ∈ addrs Ps
      · obtain ⟨i, c, hi⟩ := addrs_get z
        obtain ⟨n', a1, a2, a3, a4⟩ := t.cell (hk i j c hi)
        obtain rfl := a4 j rfl
        obtain ⟨x, b1, b2⟩ := hx.get hi
        rw [b2.2] at hj
        cases hj
        exact a2
      · exact t.fr j d ((if_neg z).trans hj)
    exact trimF_pure (dDef_rt (by rw [hx.len, hl]) rfl e) (D.lt_mono (Nat.zero_le _) hv)
  | _ => rw [e] at q; exact q.elim
/-- .. that hands back a new cell -/
theorem fn_new {m : DS} (hl : Ps.length = a) (h : QS (Ps ++ List.replicate (k - a) .any) m (.rn c P')) (hk : ∀ (i n : Nat) (c : Cell), Ps[i]? = some (.c (some n) c) → P'[i]? = some (.c (some n) c)) (nd : (addrs Ps).Nodup) (hx : ArgsP S xs Ps) : ∃ r g, dDef a k m xs S = .ok (.ref r) (S ++ g) ∧ S.length ≤ r ∧ (S ++ g)[r]? = some c := by
  have q := h _ _ _ (Sd.start hx nd (k - a))
  cases e : m (xs.map some ++ List.replicate (k - a) none) S with
  | rt d S' =>
    rw [e] at q
    obtain ⟨r, E', rfl, hr, t⟩ := q
    have back : ∀ (j : Nat) (d : Cell), S[j]? = some d → S'[j]? = some d ∧ j ≠ r := fun j d hj => by
      by_cases z : j ∈ addrs Ps
      · obtain ⟨i, c, hi⟩ := addrs_get z
        obtain ⟨n', a1, a2, a3, a4⟩ := t.cell (hk i j c hi)
        obtain rfl := a4 j rfl
        obtain ⟨x, b1, b2⟩ := hx.get hi
        rw [b2.2] at hj
        cases hj
        exact ⟨a2, fun z => by rw [z, Fr.add_same] at a3; cases a3⟩
      · have hf : fOf S (addrs Ps) j = some d := (if_neg z).trans hj
        have hne : j ≠ r := fun q => by rw [q, hr] at hf; cases hf
        exact ⟨t.fr j d (by rw [Fr.add_ne _ hne]; exact hf), hne⟩
    obtain ⟨g, rfl⟩ := eq_pre (S := S) (S' := S') fun j d hj => (back j d hj).1
    refine ⟨r, g, dDef_rt (by rw [hx.len, hl]) rfl e, ?_, t.addc⟩
    by_cases z : r < S.length
    · exact absurd rfl (back r S[r] (List.getElem?_eq_getElem z)).2
    · omega
  | _ => rw [e] at q; exact q.elim
/-- .. of data alone -/
theorem ArgsP.data : ∀ {vs : List D}, ArgsP S vs (vs.map .d)
  | [] => trivial
  | _ :: _ => ⟨rfl, ArgsP.data⟩
theorem addrs_data : ∀ {vs : List D}, addrs (vs.map .d) = []
  | [] => rfl
  | _ :: vs => addrs_data (vs := vs)
theorem data_no : ∀ {vs : List D} {i : Nat} {o : Option Nat} {c : Cell}, (vs.map PV.d)[i]? ≠ some (.c o c) := fun {vs i o c} e => by
  rw [List.getElem?_map] at e
  obtain ⟨x, _, z⟩ := Option.map_eq_some_iff.mp e
  cases z
theorem fn_data {m : DS} (hl : vs.length = a) (h : QS (vs.map .d ++ List.replicate (k - a) .any) m (.rt v P')) (hv : D.lt 0 v = true) : OpF [] (trimF (dDef a k m)) vs v := fun S _ =>
  fn_ok (Ps := vs.map .d) (by rw [List.length_map, hl]) h (fun i n c e => absurd e data_no) hv (by rw [addrs_data]; exact .nil) ArgsP.data
end
end Qn
set_option Elab.async false
set_option linter.all false
set_option maxHeartbeats 1000000
set_option maxRecDepth 100000
/-! Qn5: operations on data -/
namespace Qn
open PySem PySem.Spec L2 Dn Pn
section
variable [KF] {P P' P0 P1 P2 P3 : PE} {E : Dn.Env} {S : Store} {i j n k s m a : Nat} {o : Option Nat} {c : Cell} {x y z v : D} {ma mb mc md : DE} {da : DA} {xs ys vs : List D} {g : Gate}
theorem t_add {i j : Int} : ∀ S, vAdd (.int i) (.int j) S = .ok (.int (i + j)) S := fun _ => rfl
theorem t_sub {i j : Int} : ∀ S, vSub (.int i) (.int j) S = .ok (.int (i - j)) S := fun _ => rfl
theorem t_subN {i j : Nat} (h : j ≤ i) : ∀ S, vSub (.int (i : Nat)) (.int (j : Nat)) S = .ok (.int ((i - j : Nat) : Int)) S := fun _ => by
  rw [Int.natCast_sub h]; rfl
theorem t_cmp {p : Int → Int → Bool} {i j : Int} : ∀ S, vCmp p (.int i) (.int j) S = .ok (.bl (p i j)) S := fun _ => rfl
theorem t_eqI {i j : Int} : ∀ S, vEq (.int i) (.int j) S = .ok (.bl (decide (i = j))) S := fun _ => e_eqI
theorem t_neI {i j : Int} : ∀ S, vNe (.int i) (.int j) S = .ok (.bl (!decide (i = j))) S := fun S => by
  rw [vNe_of (p := .int i) (q := .int j) rfl rfl ((Ok.int i).shaped (by decide)) ((Ok.int j).shaped (by decide))]
  simp only [PyData.eqv]
  by_cases h : i = j <;> simp [h]
theorem t_mod {i j : Int} (h : 0 < j) : ∀ S, vMod (.int i) (.int j) S = .ok (.int (i % j)) S := fun _ => e_mod h
theorem t_div {i j : Int} (h : 0 < j) (h2 : j < 1073741824) : ∀ S, vDiv (.int i) (.int j) S = .ok (.int (i / j)) S := fun _ => e_div h h2
theorem t_mulR {i j : Int} (h : small64 j = true) : ∀ S, vMul (.int i) (.int j) S = .ok (.int (i * j)) S := fun _ => e_mulR h
theorem t_mulL {i j : Int} (h : small64 i = true) : ∀ S, vMul (.int i) (.int j) S = .ok (.int (i * j)) S := fun _ => e_mulL h
theorem t_ixT {i : Nat} (h : xs[i]? = some x) : ∀ S, vIx (.tup xs) (.int (i : Nat)) S = .ok x S := fun _ => e_ixT (ixN_nat (get_lt' h)) h
where get_lt' {xs : List D} {i : Nat} {x : D} (h : xs[i]? = some x) : i < xs.length := (List.getElem?_eq_some_iff.mp h).1
theorem t_ixL {i : Nat} (h : xs[i]? = some x) : ∀ S n, S[n]? = some (.lst xs) → vIx (.ref n) (.int (i : Nat)) S = .ok x S := fun _ _ e => e_ixL e (ixN_nat (List.getElem?_eq_some_iff.mp h).1) h
theorem t_row (h : k < g.length) : ∀ S, vIx (gateD g) (.int (k : Nat)) S = .ok (rowD (g.getD k [])) S := by
  refine t_ixT ?_
  rw [List.getElem?_map, List.getElem?_eq_getElem h, List.getD_eq_getElem?_getD, List.getElem?_eq_getElem h]
  rfl
theorem t_cell {r : List (Nat × Nat)} (h : i < r.length) : ∀ S, vIx (rowD r) (.int (i : Nat)) S = .ok (pairD (r.getD i (0, 0))) S := by
  refine t_ixT ?_
  rw [List.getElem?_map, List.getElem?_eq_getElem h, List.getD_eq_getElem?_getD, List.getElem?_eq_getElem h]
  rfl
theorem rows_len {s m k : Nat} {g : Gate} (h : Shape s m g) (hk : k < m) : (g.getD k []).length = s := by
  have hl := h.len
  rw [List.getD_eq_getElem?_getD, List.getElem?_eq_getElem (by omega)]
  exact h.rows _ (List.getElem_mem _)
/-- gate[mark][side] -/
theorem Ex.cell (h : Shape s m g) (hk : k < m) (hi : i < s) (h1 : Ex P ma (gateD g) P1) (h2 : Ex P1 mb (.int (k : Nat)) P2) (h3 : Ex P2 mc (.int (i : Nat)) P3) : Ex P (dBin vIx (dBin vIx ma mb) mc) (pairD (FF g k i)) P3 := by
  have hl := h.len
  exact .bin (.bin h1 h2 (t_row (by omega))) h3 (t_cell (by rw [rows_len h hk]; exact hi))
theorem t_pr1 {p : Nat × Nat} : ∀ S, vIx (pairD p) (.int 0) S = .ok (.int (p.1 : Nat)) S := t_ixT (i := 0) rfl
theorem t_pr2 {p : Nat × Nat} : ∀ S, vIx (pairD p) (.int 1) S = .ok (.int (p.2 : Nat)) S := t_ixT (i := 1) rfl
theorem t_neS {d : D} (h : Da k d) (hk : k ≤ 64) : ∀ S, vNe d d S = .ok (.bl false) S := fun S => op_neS (A := []) h hk S List.nil_prefix
theorem t_intB {b : Bool} : ∀ S, bInt [.bl b] S = .ok (.int (if b then 1 else 0)) S := fun _ => rfl
theorem Ex.intB {b : Bool} (h : Ex P ma (.bl b) P1) : Ex P (dCall bInt (aCons ma aNil)) (.int (if b then 1 else 0)) P1 := .call (.one h) t_intB
/-- draws -/
theorem Ex.draw {v s c : Int} {m : Nat} (hi : P[i]? = some (.c o c0)) (h : Ex P ma (.int (m : Nat)) P1) (hP : P1[i]? = some (.c o (boxC v s c))) (h1 : 0 < m) (h2 : m ≤ 1000000) : ∃ (d : Nat) (v' s' c' : Int), d < m ∧ Ex P (dCall FTake (aCons (dVar i) (aCons ma aNil))) (.int (d : Nat)) (P1.set i (.c o (boxC v' s' c'))) := by
  have key := fun (st : Store) (n : Nat) => FTake_ok (st := st) (n := n) (m := (m : Int)) (v := v) (s := s) (c := c)
  obtain ⟨d, v', s', c', hd, hb⟩ : ∃ (d : Nat) (v' s' c' : Int), d < m ∧ ∀ S n, S[n]? = some (boxC v s c) → FTake [.ref n, .int (m : Nat)] S = .ok (.int (d : Nat)) (S.set n (boxC v' s' c')) := by
    have e := fun S n (h : S[n]? = some (boxC v s c)) => Pn.draw (A := S) (n := n) h h1 h2
    obtain ⟨d, v', s', c', hd, he⟩ := e [boxC v s c] 0 rfl
    have k0 := key [boxC v s c] 0 rfl (by omega) (by omega)
    rw [he] at k0
    refine ⟨d, v', s', c', hd, fun S n h => ?_⟩
    rw [key S n h (by omega) (by omega)]
    have k1 : ([boxC v s c].set 0 (boxC v' s' c')) = [boxC v s c].set 0 (boxC (boxV v m) (boxS v s c) (boxN v c)) := by
      injection k0
    have k2 : D.int (d : Nat) = D.int (digit v s c m) := by injection k0
    have k3 : boxC v' s' c' = boxC (boxV v m) (boxS v s c) (boxN v c) := by
      have := congrArg (fun l : Store => l[0]?) k1
      simpa using this
    rw [k2, k3]
  refine ⟨d, v', s', c', hd, ?_⟩
  have hm : ExM P (aCons (dVar i) (aCons ma aNil)) [.h (some i) (boxC v s c), .d (.int (m : Nat))] P1 := by
    intro f E S st
    obtain ⟨n, e1, e2, _⟩ := st.cell hi
    obtain ⟨S1, e3, s1⟩ := h f E S st
    have hv : dVar i E S = .ok (.ref n) S := by unfold dVar; rw [e1]
    exact ⟨[.ref n, .int (m : Nat)], S1, f, by rw [e_acons, hv, Dn.R.bind_ok, e_acons, e3, Dn.R.bind_ok, e_anil, Dn.R.bind_ok, Dn.R.bind_ok], s1, Sub.refl f, ⟨⟨n, rfl, e1⟩, rfl, trivial⟩, .nil, fun n h => by cases h⟩
  refine Ex.callW (as := [.d (.int (m : Nat))]) hm hP ⟨trivial, trivial⟩ fun S n xs hc ha => ?_
  cases xs with
  | nil => exact ha.elim
  | cons x xs => cases xs with
    | nil =>
      obtain ⟨rfl, _⟩ := ha
      exact hb S n hc
    | cons y ys => exact ha.2.elim
/-- a call that takes from a slot's box: F(box, data..) -/
theorem Ex.boxed {F : DF} {c' : Cell} (hi : P[i]? = some (.c o c0)) (h : ExA P da vs P1) (hP : P1[i]? = some (.c o c)) (hF : ∀ S n, S[n]? = some c → F (.ref n :: vs) S = .ok v (S.set n c')) : Ex P (dCall F (aCons (dVar i) da)) v (P1.set i (.c o c')) := fun f E S st => by
  obtain ⟨n, e1, e2, _⟩ := st.cell hi
  obtain ⟨S1, e3, s1⟩ := h f E S st
  obtain ⟨n', e1', e4, _⟩ := s1.cell hP
  rw [e1] at e1'
  cases e1'
  have hv : dVar i E S = .ok (.ref n) S := by unfold dVar; rw [e1]
  exact ⟨_, by rw [e_call, e_acons, hv, Dn.R.bind_ok, e3, Dn.R.bind_ok, Dn.R.bind_ok, hF _ _ e4], s1.write hP e1 c'⟩
/-- list(range(n)) -/
theorem rg_ok {r : Nat} (h : r ≤ 1000000) : rgOk 0 (r : Int) = true := by
  unfold rgOk
  rw [show smallR 0 = true from by decide, small_nat h]
  simp only [Bool.true_and, decide_eq_true_eq]
  omega
theorem ExN.listRg {r : Nat} (h : Ex P ma (.int (r : Nat)) P1) (hr : r ≤ 1000000) : ExN P (dListRg ma) (.lst (rngD 0 r)) P1 := fun f E S st => by
  obtain ⟨S1, e1, s1⟩ := h f E S st
  obtain ⟨q1, q2⟩ := s1.newAt (g := [.lst (rngD 0 r)]) (n := S1.length) (c := .lst (rngD 0 r)) (Nat.le_refl _) (by simp)
  refine ⟨_, _, ?_, q1, q2⟩
  unfold dListRg
  rw [e1, Dn.R.bind_ok]
  dsimp only
  rw [if_pos (rg_ok hr)]
  rfl
/-! ### parallel assignment -/
def parE (E : Dn.Env) : List Nat → List D → Dn.Env
  | i :: is, x :: xs => parE (E.set i (some x)) is xs
  | _, _ => E
def parP (P : PE) : List Nat → List Arg → PE
  | i :: is, .d v :: as => parP (P.set i (.d v)) is as
  | i :: is, .h none c :: as => parP (P.set i (.c none c)) is as
  | i :: is, .h (some _) _ :: as => parP (P.set i .any) is as
  | _, _ => P
def Fr.del (f : Fr) (n : Nat) : Fr := fun k => if k = n then none else f k
theorem Sd.takeD {f : Fr} (h : Sd f P E S) (hn : f n = some c) (hk : ∀ k d, KF.k k = some d → (f.del n) k = some d) (i : Nat) : Sd (f.del n) (P.set i (.c none c)) (E.set i (some (.ref n))) S := by
  have h1 : Sd ((f.del n).add n c) P E S := h.weak (fun k d e => by
    by_cases z : k = n
    · subst z; rw [Fr.add_same] at e; cases e; exact hn
    · rw [Fr.add_ne _ z] at e
      unfold Fr.del at e
      rw [if_neg z] at e
      exact e) fun k d e => by
    by_cases z : k = n
    · subst z
      have q := hk _ _ e
      unfold Fr.del at q
      rw [if_pos rfl] at q
      cases q
    · rw [Fr.add_ne _ z]; exact hk k d e
  exact h1.take (by unfold Fr.del; rw [if_pos rfl]) hk i
theorem par_ok {f : Fr} : ∀ (is : List Nat) (as : List Arg) (xs : List D) (f' : Fr) (P : PE) (E0 E : Dn.Env), is.length = as.length → Sd f' P E S → ArgsOk f f' E0 xs as → (freshA xs as).Nodup → (∀ n ∈ freshA xs as, f n = none) → Sub f f' → (∀ k d, KF.k k = some d → f k = some d) → Sd f (parP P is as) (parE E is xs) S
  | [], [], [], f', P, E0, E, _, h, _, _, _, u, hkf => h.weak u hkf
  | i :: is, .d v :: as, x :: xs, f', P, E0, E, hl, h, ha, nd, hf, u, hkf => by
    obtain ⟨rfl, ha⟩ := ha
    have e : freshA (x :: xs) (.d x :: as) = freshA xs as := by cases x <;> rfl
    rw [e] at nd hf
    exact par_ok is as xs f' _ E0 _ (by simpa using hl) (h.setD i x) ha nd hf u hkf
  | i :: is, .h none c :: as, x :: xs, f', P, E0, E, hl, h, ha, nd, hf, u, hkf => by
    obtain ⟨⟨n, rfl, hn⟩, ha⟩ := ha
    have nd' : (n :: freshA xs as).Nodup := nd
    obtain ⟨n1, n2⟩ := List.nodup_cons.mp nd'
    have hf' : ∀ r ∈ n :: freshA xs as, f r = none := hf
    have sub : ∀ (xs : List D) (as : List Arg), n ∉ freshA xs as → ArgsOk f f' E0 xs as → ArgsOk f (f'.del n) E0 xs as := fun xs as => by
      induction xs generalizing as with
      | nil => cases as with
        | nil => exact fun _ h => h
        | cons => exact fun _ h => h.elim
      | cons y ys ih => cases as with
        | nil => exact fun _ h => h.elim
        | cons b bs => cases b with
          | d w =>
            intro hm ho
            have e : freshA (y :: ys) (.d w :: bs) = freshA ys bs := by cases y <;> rfl
            rw [e] at hm
            exact ⟨ho.1, ih _ hm ho.2⟩
          | h k c' =>
            intro hm ho
            obtain ⟨⟨r, rfl, hr⟩, ho⟩ := ho
            cases k with
            | none =>
              have hm' : n ∉ r :: freshA ys bs := hm
              refine ⟨⟨r, rfl, hr.1, ?_⟩, ih _ (fun z => hm' (List.mem_cons_of_mem _ z)) ho⟩
              unfold Fr.del
              rw [if_neg fun z => hm' (by simp [z])]
              exact hr.2
            | some q => exact ⟨⟨r, rfl, hr⟩, ih _ hm ho⟩
    refine par_ok is as xs (f'.del n) _ E0 _ (by simpa using hl) (h.takeD hn.2 (fun r d e => ?_) i) (sub xs as n1 ha) n2 (fun r hr => hf' r (List.mem_cons_of_mem _ hr)) (fun r d e => ?_) hkf
    · unfold Fr.del
      have e2 := hkf r d e
      rw [if_neg fun z => by subst z; rw [hn.1] at e2; cases e2]
      exact u r d e2
    · unfold Fr.del
      rw [if_neg fun z => by subst z; rw [hn.1] at e; cases e]
      exact u r d e
  | i :: is, .h (some q) c :: as, x :: xs, f', P, E0, E, hl, h, ha, nd, hf, u, hkf => by
    obtain ⟨⟨n, rfl, hn⟩, ha⟩ := ha
    exact par_ok is as xs f' _ E0 _ (by simpa using hl) (h.setAny i _) ha nd hf u hkf
  | [], [], x :: xs, _, _, _, _, _, _, ha, _, _, _, _ => ha.elim
  | i :: is, .d v :: as, [], _, _, _, _, _, _, ha, _, _, _, _ => ha.elim
  | i :: is, .h _ _ :: as, [], _, _, _, _, _, _, ha, _, _, _, _ => ha.elim
  | [], _ :: _, _, _, _, _, _, hl, _, _, _, _, _, _ => by simp at hl
  | _ :: _, [], _, _, _, _, _, hl, _, _, _, _, _, _ => by simp at hl
theorem args_len {f f' : Fr} : ∀ {xs : List D} {as : List Arg}, ArgsOk f f' E xs as → xs.length = as.length
  | [], [], _ => rfl
  | _ :: _, _ :: _, h => by rw [List.length_cons, List.length_cons, args_len h.2]
theorem parE_fold : ∀ (is : List Nat) (xs : List D) (E : Dn.Env), (is.zip xs).foldl (fun env z => env.set z.1 (some z.2)) E = parE E is xs
  | [], _, _ => by simp [parE]
  | _ :: _, [], _ => by simp [parE]
  | i :: is, x :: xs, E => by
    rw [List.zip_cons_cons, List.foldl_cons, parE_fold is xs]
    rfl
theorem QS.par {is : List Nat} {as : List Arg} (h : ExM P da as P1) (hl : is.length = as.length := by rfl) : QS P (dPar is da) (.nx (parP P1 is as)) := fun f E S st => by
  obtain ⟨xs, S1, f', e1, s1, u, q1, q2, q3⟩ := h f E S st
  unfold dPar
  rw [e1, R.toS_ok, if_pos (by rw [args_len q1, hl]), parE_fold]
  exact par_ok is as xs f' P1 E E hl s1 q1 q2 q3 u st.kn
/-- a, b = x, y by the tuple: of new lists and data, to names -/
def gNs : List Nat → DGs
  | [] => gsNil
  | i :: is => gsCons (gNm i) (gNs is)
theorem gNs_ok : ∀ (is : List Nat) (xs : List D) (E : Dn.Env), is.length = xs.length → gNs is xs E S = .ok (parE E is xs) S
  | [], [], _, _ => rfl
  | i :: is, x :: xs, E, h => by
    show (match gNm i x E S with
      | .ok env1 st1 => gNs is xs env1 st1
      | _ => .bad) = _
    rw [e_gnm]
    exact gNs_ok is xs _ (by simpa using h)
  | [], _ :: _, _, h => by simp at h
  | _ :: _, [], _, h => by simp at h
end
end Qn
set_option Elab.async false
set_option linter.all false
set_option maxHeartbeats 1000000
set_option maxRecDepth 100000
/-! Qn6: more rules -/
namespace Qn
open PySem PySem.Spec L2 Dn Pn
section
variable {f : Fr} {P P' P0 P1 P2 P3 P4 : PE} {E : Dn.Env} {S : Store} {i j n k s m a : Nat} {o : Option Nat} {c c' : Cell} {x y z v w : D} {ma mb mc md : DE} {da : DA} {xs ys vs : List D} {g : DG} {Ps : List PV}
variable [KF]
/-- a held cell written -/
theorem Sd.rewr (h : Sd (f.add n c) P E S) (hn : f n = none) (hk : ∀ n c, KF.k n = some c → f n = some c) (c' : Cell) : Sd (f.add n c') P E (S.set n c') := by
  have hc := h.addc
  have hl := get_lt hc
  refine ⟨h.len, fun k d e => ?_, fun i p e => ?_, h.sep, fun k d e => by rw [Fr.add_ne f (fun z => by rw [z] at e; rw [hk _ _ e] at hn; cases hn)]; exact hk k d e⟩
  · by_cases z : k = n
    · subst z
      rw [Fr.add_same] at e
      cases e
      exact List.getElem?_set_self hl
    · rw [Fr.add_ne _ z] at e
      rw [List.getElem?_set_ne (Ne.symm z)]
      exact h.fr k d (by rw [Fr.add_ne _ z]; exact e)
  · have q := h.at_ i p e
    cases p with
    | any => trivial
    | d v => exact q
    | c o cc =>
      obtain ⟨r, q1, q2, q3, q4⟩ := q
      have hr : r ≠ n := fun z => by subst z; rw [Fr.add_same] at q3; cases q3
      exact ⟨r, q1, by rw [List.getElem?_set_ne (Ne.symm hr)]; exact q2, by rw [Fr.add_ne _ hr] at q3 ⊢; exact q3, q4⟩
/-- {k: v, ..} of data -/
def ExPs (P : PE) (ms : List (DE × DE)) (kvs : List (D × D)) (P' : PE) : Prop := ∀ f E S, Sd f P E S → ∃ S', dPairs ms E S = .ok kvs S' ∧ Sd f P' E S'
theorem ExPs.nil : ExPs P [] [] P := fun f E S t => ⟨S, rfl, t⟩
theorem ExPs.cons {ms : List (DE × DE)} {kvs : List (D × D)} (h1 : Ex P ma x P1) (h2 : Ex P1 mb y P2) (h : ExPs P2 ms kvs P') : ExPs P ((ma, mb) :: ms) ((x, y) :: kvs) P' := fun f E S t => by
  obtain ⟨S1, e1, t1⟩ := h1 f E S t
  obtain ⟨S2, e2, t2⟩ := h2 f E S1 t1
  obtain ⟨S3, e3, t3⟩ := h f E S2 t2
  exact ⟨S3, by unfold dPairs; rw [e1, Dn.R.bind_ok, e2, Dn.R.bind_ok, e3, Dn.R.bind_ok], t3⟩
/-- a comprehension that chooses and maps -/
theorem ExN.lcF {α : Type} {l : List α} {h : α → D} {W : PE → Prop} {it : DI} {tt : DB} {te : DE} {ws vs : List Nat} (F : α → D) (t : α → Bool) (hi : It P it (l.map h) P1 W) (hl : l.length ≤ sizeLine) (hW : W (wipeP P1 vs)) (hv : ∀ v ∈ ws, v ∈ vs)
    (step : ∀ x ∈ l, ∃ P2, Tg ws (wipeP P1 vs) g (h x) P2 ∧ wipeP P2 ws = wipeP P1 vs ∧ ExB P2 tt (t x) P2 ∧ (t x = true → Ex P2 te (F x) P2)) : ExN P (dLc it g tt te vs) (.lst ((l.filter t).map F)) (backP P1 (wipeP P1 vs) vs) := by
  obtain ⟨Q, acc, ⟨rfl, e⟩, k⟩ := ExN.lcP (g := g) (tt := tt) (te := te) (fun i P acc => P = wipeP P1 vs ∧ acc = ((l.take i).filter t).map F) hi ⟨rfl, by simp⟩ (fun i P acc e => by rw [e.1]; exact hW) hv (by
    rintro r x P acc hx ⟨rfl, rfl⟩
    rw [List.getElem?_map] at hx
    obtain ⟨a, ha, rfl⟩ := Option.map_eq_some_iff.mp hx
    obtain ⟨P2, tg, hw, hb, he⟩ := step a (List.mem_of_getElem? ha)
    have hr : r < l.length := (List.getElem?_eq_some_iff.mp ha).1
    refine ⟨?_, P2, tg, t a, P2, hb, fun z => ⟨hw, ?_⟩, fun z => ⟨F a, P2, he z, hw, ?_⟩⟩
    · rw [List.length_map]
      have := List.length_filter_le t (l.take r)
      rw [List.length_take] at this
      omega
    · rw [List.take_add_one, ha]
      simp [z]
    · rw [List.take_add_one, ha]
      simp [z])
  rw [List.length_map, List.take_length] at e
  rw [e] at k
  exact k
theorem ints_py {rf : Nat → Option PyData} (l : List Nat) : pyWs rf (l.map fun i => D.int (i : Nat)) = some (l.map fun i => PyData.int (i : Nat)) := pyWs_map (f := fun i : Nat => D.int (i : Nat)) (h := fun i : Nat => PyData.int (i : Nat)) (fun _ => rfl) l
end
end Qn
set_option Elab.async false
set_option linter.all false
set_option maxHeartbeats 1000000
set_option maxRecDepth 100000
/-! Qn7: .. that ends in one of several ways -/
namespace Qn
open PySem PySem.Spec L2 Dn Pn
section
variable [KF]
def EE (P : PE) (m : DE) (R : D → PE → Prop) : Prop := ∀ f E S, Sd f P E S → ∃ v P' S', R v P' ∧ m E S = .ok v S' ∧ Sd f P' E S'
def EB (P : PE) (m : DB) (R : Bool → PE → Prop) : Prop := ∀ f E S, Sd f P E S → ∃ v P' S', R v P' ∧ m E S = .ok v S' ∧ Sd f P' E S'
def EA (P : PE) (m : DA) (R : List D → PE → Prop) : Prop := ∀ f E S, Sd f P E S → ∃ v P' S', R v P' ∧ m E S = .ok v S' ∧ Sd f P' E S'
def EN (P : PE) (m : DE) (R : Cell → PE → Prop) : Prop := ∀ f E S, Sd f P E S → ∃ c P' n S', R c P' ∧ m E S = .ok (.ref n) S' ∧ f n = none ∧ Sd (f.add n c) P' E S'
def QE (P : PE) (m : DS) (O : Out → Prop) : Prop := ∀ f E S, Sd f P E S → ∃ o, O o ∧ Fits f (m E S) o
end
section
variable [KF] {f : Fr} {P P' P0 P1 P2 P3 P4 : PE} {E : Dn.Env} {S : Store} {i j n k s m a : Nat} {o : Option Nat} {c c' c0 : Cell} {x y z v w : D} {ma mb mc md : DE} {da : DA} {xs ys vs : List D} {g : DG} {R R1 R2 : D → PE → Prop} {O O' : Out → Prop} {st st' : DS} {nb nb' : DB} {b : Bool}
theorem Ex.ee (h : Ex P ma v P') (hr : R v P') : EE P ma R := fun f E S t => let ⟨S', e, t'⟩ := h f E S t; ⟨v, P', S', hr, e, t'⟩
theorem ExB.eb {Rb : Bool → PE → Prop} (h : ExB P nb b P') (hr : Rb b P') : EB P nb Rb := fun f E S t => let ⟨S', e, t'⟩ := h f E S t; ⟨b, P', S', hr, e, t'⟩
theorem ExN.en {Rc : Cell → PE → Prop} (h : ExN P ma c P') (hr : Rc c P') : EN P ma Rc := fun f E S t => let ⟨n, S', e, hn, t'⟩ := h f E S t; ⟨c, P', n, S', hr, e, hn, t'⟩
theorem EE.mono (h : EE P ma R1) (k : ∀ v P', R1 v P' → R v P') : EE P ma R := fun f E S t => let ⟨v, P', S', hr, e, t'⟩ := h f E S t; ⟨v, P', S', k _ _ hr, e, t'⟩
theorem QS.qe {ou : Out} (h : QS P st ou) (ho : O ou) : QE P st O := fun f E S t => ⟨ou, ho, h f E S t⟩
theorem QE.mono (h : QE P st O') (k : ∀ o, O' o → O o) : QE P st O := fun f E S t => let ⟨o, ho, q⟩ := h f E S t; ⟨o, k o ho, q⟩
theorem EE.bin {t : D → D → Store → Dn.R D} (ha : EE P ma R1) (hb : ∀ x P1, R1 x P1 → EE P1 mb fun y P2 => ∃ z, (∀ S, t x y S = .ok z S) ∧ R z P2) : EE P (dBin t ma mb) R := fun f E S s => by
  obtain ⟨x, P1, S1, r1, e1, s1⟩ := ha f E S s
  obtain ⟨y, P2, S2, ⟨z, ht, r2⟩, e2, s2⟩ := hb x P1 r1 f E S1 s1
  exact ⟨z, P2, S2, r2, by rw [e_Bin, e1, Dn.R.bind_ok, e2, Dn.R.bind_ok, ht], s2⟩
/-- a held cell and data -/
theorem EE.binH {t : D → D → Store → Dn.R D} {k : Option Nat} (ha : Hd P ma k c P1) (hb : EE P1 mb fun y P2 => Keep P2 c k ∧ ∃ z, (∀ S n, S[n]? = some c → t (.ref n) y S = .ok z S) ∧ R z P2) : EE P (dBin t ma mb) R := fun f E S s => by
  obtain ⟨n, S1, f', e1, s1, u, hh⟩ := ha f E S s
  obtain ⟨y, P2, S2, ⟨hk, z, ht, r2⟩, e2, s2⟩ := hb f' E S1 s1
  exact ⟨z, P2, S2, r2, by rw [e_Bin, e1, Dn.R.bind_ok, e2, Dn.R.bind_ok, ht _ _ (hh.get hk s2 (Sub.refl _))], s2.weak u s.kn⟩
theorem EA.nil {Ra : List D → PE → Prop} (h : Ra [] P) : EA P aNil Ra := fun f E S s => ⟨[], P, S, h, rfl, s⟩
theorem EA.cons {Ra : List D → PE → Prop} (h : EE P ma R1) (h' : ∀ x P1, R1 x P1 → EA P1 da fun xs P2 => Ra (x :: xs) P2) : EA P (aCons ma da) Ra := fun f E S s => by
  obtain ⟨x, P1, S1, r1, e1, s1⟩ := h f E S s
  obtain ⟨xs, P2, S2, r2, e2, s2⟩ := h' x P1 r1 f E S1 s1
  exact ⟨x :: xs, P2, S2, r2, by rw [e_acons, e1, Dn.R.bind_ok, e2, Dn.R.bind_ok], s2⟩
theorem ExA.ea {Ra : List D → PE → Prop} (h : ExA P da vs P') (hr : Ra vs P') : EA P da Ra := fun f E S t => let ⟨S', e, t'⟩ := h f E S t; ⟨vs, P', S', hr, e, t'⟩
theorem EE.call {F : DF} (h : EA P da fun xs P' => ∃ v, (∀ S, F xs S = .ok v S) ∧ R v P') : EE P (dCall F da) R := fun f E S s => by
  obtain ⟨xs, P1, S1, ⟨v, hF, r⟩, e1, s1⟩ := h f E S s
  exact ⟨v, P1, S1, r, by rw [e_call, e1, Dn.R.bind_ok, hF], s1⟩
theorem EE.tup (h : EA P da fun xs P' => xs.length ≤ sizeLine ∧ R (.tup xs) P') : EE P (dTup da) R := fun f E S s => by
  obtain ⟨xs, P1, S1, ⟨hl, r⟩, e1, s1⟩ := h f E S s
  exact ⟨.tup xs, P1, S1, r, by rw [e_tup, e1, Dn.R.bind_ok, mkTup_ok hl], s1⟩
theorem EN.lst {Rc : Cell → PE → Prop} (h : EA P da fun xs P' => xs.length ≤ sizeLine ∧ Rc (.lst xs) P') : EN P (dLst da) Rc := fun f E S s => by
  obtain ⟨xs, P1, S1, ⟨hl, r⟩, e1, s1⟩ := h f E S s
  obtain ⟨q1, q2⟩ := s1.newAt (g := [.lst xs]) (n := S1.length) (c := .lst xs) (Nat.le_refl _) (by simp)
  exact ⟨_, P1, _, _, r, by rw [e_lst, e1, Dn.R.bind_ok, mkLst_ok hl], q1, q2⟩
/-- F(x, data..), x a slot's cell that F changes -/
theorem EE.boxed {F : DF} (hi : P[i]? = some (.c o c0)) (h : EA P da fun vs P1 => ∃ c, P1[i]? = some (.c o c) ∧ ∀ S n, S[n]? = some c → ∃ v c', R v (P1.set i (.c o c')) ∧ F (.ref n :: vs) S = .ok v (S.set n c')) : EE P (dCall F (aCons (dVar i) da)) R := fun f E S st => by
  obtain ⟨n, e1, e2, _⟩ := st.cell hi
  obtain ⟨vs, P1, S1, ⟨c, hP, hF⟩, e3, s1⟩ := h f E S st
  obtain ⟨n', e1', e4, _⟩ := s1.cell hP
  rw [e1] at e1'
  cases e1'
  obtain ⟨v, c', r, e5⟩ := hF _ _ e4
  have hv : dVar i E S = .ok (.ref n) S := by unfold dVar; rw [e1]
  exact ⟨v, _, _, r, by rw [e_call, e_acons, hv, Dn.R.bind_ok, e3, Dn.R.bind_ok, Dn.R.bind_ok, e5], s1.write hP e1 c'⟩
/-- one drawn number -/
def IsBox (c : Cell) : Prop := ∃ v s t, c = boxC v s t
theorem IsBox.lt {c : Cell} (h : IsBox c) (n : Nat) : c.lt n = true := by
  obtain ⟨v, s, t, rfl⟩ := h
  exact boxC_lt v s t n
theorem take_box {c : Cell} (h : IsBox c) {m : Nat} (h1 : 0 < m) (h2 : m ≤ 1000000) {S : Store} {n : Nat} (hn : S[n]? = some c) : ∃ (d : Nat) (c' : Cell), d < m ∧ IsBox c' ∧ FTake [.ref n, .int (m : Nat)] S = .ok (.int (d : Nat)) (S.set n c') := by
  obtain ⟨v, s, t, rfl⟩ := h
  obtain ⟨d, v', s', t', hd, e⟩ := Pn.draw hn h1 h2
  exact ⟨d, _, hd, ⟨v', s', t', rfl⟩, e⟩
theorem EE.draw (hi : P[i]? = some (.c o c0)) (h : Ex P ma (.int (m : Nat)) P1) (hP : P1[i]? = some (.c o c)) (hb : IsBox c) (h1 : 0 < m) (h2 : m ≤ 1000000) (hr : ∀ (d : Nat) (c' : Cell), d < m → IsBox c' → R (.int (d : Nat)) (P1.set i (.c o c'))) : EE P (dCall FTake (aCons (dVar i) (aCons ma aNil))) R :=
  .boxed hi (ExA.ea (.one h) ⟨c, hP, fun S n hn => by
    obtain ⟨d, c', hd, hb', e⟩ := take_box hb h1 h2 hn
    exact ⟨_, c', hr d c' hd hb', e⟩⟩)
theorem EB.test {Rb : Bool → PE → Prop} (h : EE P ma fun x P' => ∃ b, x = .bl b ∧ Rb b P') : EB P (dTest ma) Rb := fun f E S s => by
  obtain ⟨x, P1, S1, ⟨b, rfl, r⟩, e1, s1⟩ := h f E S s
  exact ⟨b, P1, S1, r, by rw [e_Test, e1, Dn.R.bind_ok], s1⟩
theorem EB.not {Rb : Bool → PE → Prop} (h : EB P nb fun b P' => Rb (!b) P') : EB P (dTNot nb) Rb := fun f E S s => by
  obtain ⟨b, P1, S1, r, e1, s1⟩ := h f E S s
  exact ⟨!b, P1, S1, r, by unfold dTNot; rw [e1, Dn.R.bind_ok], s1⟩
theorem EB.or {Rb : Bool → PE → Prop} (h : EB P nb fun b P' => (b = true → Rb true P') ∧ (b = false → EB P' nb' Rb)) : EB P (dTOr nb nb') Rb := fun f E S s => by
  obtain ⟨b, P1, S1, ⟨r1, r2⟩, e1, s1⟩ := h f E S s
  cases b with
  | true => exact ⟨true, P1, S1, r1 rfl, by unfold dTOr; rw [e1, Dn.R.bind_ok]; rfl, s1⟩
  | false =>
    obtain ⟨b, P2, S2, r, e2, s2⟩ := r2 rfl f E S1 s1
    exact ⟨b, P2, S2, r, by unfold dTOr; rw [e1, Dn.R.bind_ok]; exact e2, s2⟩
/-! statements -/
theorem QE.seq (h : QE P st fun o => (∃ P1, o = .nx P1 ∧ QE P1 st' O) ∨ (o.left = true ∧ O o)) : QE P (dSeq st st') O := fun f E S t => by
  obtain ⟨o, ho, q⟩ := h f E S t
  rcases ho with ⟨P1, rfl, h'⟩ | ⟨hl, ho⟩
  · cases e : st E S with
    | nx E1 S1 =>
      rw [e] at q
      obtain ⟨o', ho', q'⟩ := h' f E1 S1 q
      exact ⟨o', ho', by rw [e_seq, e]; exact q'⟩
    | _ => rw [e] at q; exact q.elim
  · refine ⟨o, ho, ?_⟩
    rw [e_seq]
    cases e : st E S with
    | nx E1 S1 =>
      rw [e] at q
      cases o with
      | nx _ => cases hl
      | _ => exact q.elim
    | _ => rw [e] at q; exact q
/-- .. behind what goes through -/
theorem QE.seqN (h : QE P st fun o => ∃ P1, o = .nx P1 ∧ QE P1 st' O) : QE P (dSeq st st') O := .seq (h.mono fun _ => .inl)
theorem QE.seqS (h : QS P st (.nx P1)) (h' : QE P1 st' O) : QE P (dSeq st st') O := .seqN (h.qe ⟨P1, rfl, h'⟩)
theorem QE.ite {Rb : Bool → PE → Prop} (h : EB P nb Rb) (h1 : ∀ P1, Rb true P1 → QE P1 st O) (h2 : ∀ P1, Rb false P1 → QE P1 st' O) : QE P (dIf nb st st') O := fun f E S t => by
  obtain ⟨b, P1, S1, r, e1, s1⟩ := h f E S t
  cases b with
  | true =>
    obtain ⟨o, ho, q⟩ := h1 P1 r f E S1 s1
    exact ⟨o, ho, by rw [e_if, e1, R.toS_ok, if_pos rfl]; exact q⟩
  | false =>
    obtain ⟨o, ho, q⟩ := h2 P1 r f E S1 s1
    exact ⟨o, ho, by rw [e_if, e1, R.toS_ok, if_neg Bool.false_ne_true]; exact q⟩
theorem QE.asg (h : EE P ma fun v P' => O (.nx (P'.set i (.d v)))) : QE P (dAsg ma (gNm i)) O := fun f E S t => by
  obtain ⟨v, P1, S1, r, e1, s1⟩ := h f E S t
  exact ⟨_, r, by rw [e_asg, e1, R.toS_ok]; exact s1.setD i v⟩
theorem QE.asgN (h : EN P ma fun c P' => O (.nx (P'.set i (.c none c)))) : QE P (dAsg ma (gNm i)) O := fun f E S t => by
  obtain ⟨c, P1, n, S1, r, e1, hn, s1⟩ := h f E S t
  exact ⟨_, r, by rw [e_asg, e1, R.toS_ok]; exact s1.take hn t.kn i⟩
theorem QE.asgT (h : EE P ma fun v P' => ∃ ws P2, Tg ws P' g v P2 ∧ O (.nx P2)) : QE P (dAsg ma g) O := fun f E S t => by
  obtain ⟨v, P1, S1, ⟨ws, P2, tg, r⟩, e1, s1⟩ := h f E S t
  obtain ⟨E2, S2, e2, s2, _⟩ := tg f E S1 s1
  exact ⟨_, r, by rw [e_asg, e1, R.toS_ok, e2]; exact s2⟩
theorem QE.drop (h : EE P ma fun v P' => O (.nx P')) : QE P (dDrop ma) O := fun f E S t => by
  obtain ⟨v, P1, S1, r, e1, s1⟩ := h f E S t
  exact ⟨_, r, by rw [e_drop, e1, R.toS_ok]; exact s1⟩
theorem QE.ret (h : EE P ma fun v P' => O (.rt v P')) : QE P (dRet ma) O := fun f E S t => by
  obtain ⟨v, P1, S1, r, e1, s1⟩ := h f E S t
  exact ⟨_, r, by rw [retE e1]; exact ⟨rfl, E, s1⟩⟩
theorem QE.retN (h : EN P ma fun c P' => O (.rn c P')) : QE P (dRet ma) O := fun f E S t => by
  obtain ⟨c, P1, n, S1, r, e1, hn, s1⟩ := h f E S t
  exact ⟨_, r, by rw [retE e1]; exact ⟨n, E, rfl, hn, s1⟩⟩
theorem QE.next (h : O (.nx P)) : QE P dNext O := QS.next.qe h
theorem QE.pre (h : QE P1 st O) (hp : ∀ f E S, Sd f P E S → Sd f P1 E S) : QE P st O := fun f E S t => h f E S (hp f E S t)
theorem QE.name (hP : P[i]? = some (.c o c)) (h : ∀ n, QE (P.set i (.c (some n) c)) st O) : QE P st O := fun f E S t => by
  obtain ⟨n, t1⟩ := t.name hP
  exact h n f E S t1
/-- a slot's list, an item put behind -/
theorem EE.append (hP : P[j]? = some (.c o (.lst xs))) (h : EE P ma fun v P1 => ∃ ys, P1[j]? = some (.c o (.lst ys)) ∧ ys.length < sizeLine ∧ R .non (P1.set j (.c o (.lst (ys ++ [v]))))) : EE P (dMeth "list" mAppend (dVar j) (aCons ma aNil)) R := fun f E S s => by
  obtain ⟨n, e1, e2, _⟩ := s.cell hP
  obtain ⟨v, P1, S1, ⟨ys, hP1, hl, r⟩, e3, s1⟩ := h f E S s
  obtain ⟨n', e1', e4, _⟩ := s1.cell hP1
  rw [e1] at e1'
  cases e1'
  have hv : dVar j E S = .ok (.ref n) S := by unfold dVar; rw [e1]
  refine ⟨.non, _, _, r, ?_, s1.write hP1 e1 _⟩
  rw [e_meth, hv, Dn.R.bind_ok, recvL e2, if_pos rfl, e_acons, e3, Dn.R.bind_ok, e_anil, Dn.R.bind_ok, Dn.R.bind_ok]
  unfold mAppend
  dsimp only
  rw [e4]
  dsimp only
  rw [if_pos hl]
theorem seqIx {r l : Nat} (h : r < l) : seqIndex? ((r : Nat) : Int) l = some r := by
  unfold seqIndex?
  split <;> simp <;> omega
theorem EE.popAt (hP : P[j]? = some (.c o (.lst xs))) (h : EE P ma fun z P1 => ∃ (r : Nat) (ys : List D) (v : D), z = .int (r : Nat) ∧ r ≤ 1000000 ∧ P1[j]? = some (.c o (.lst ys)) ∧ ys[r]? = some v ∧ R v (P1.set j (.c o (.lst (ys.eraseIdx r))))) : EE P (dMeth "list" mPopAt (dVar j) (aCons ma aNil)) R := fun f E S s => by
  obtain ⟨n, e1, e2, _⟩ := s.cell hP
  obtain ⟨z, P1, S1, ⟨r, ys, v, rfl, hr, hP1, hx, rr⟩, e3, s1⟩ := h f E S s
  obtain ⟨n', e1', e4, _⟩ := s1.cell hP1
  rw [e1] at e1'
  cases e1'
  have hv : dVar j E S = .ok (.ref n) S := by unfold dVar; rw [e1]
  refine ⟨v, _, _, rr, ?_, s1.write hP1 e1 _⟩
  rw [e_meth, hv, Dn.R.bind_ok, recvL e2, if_pos rfl, e_acons, e3, Dn.R.bind_ok, e_anil, Dn.R.bind_ok, Dn.R.bind_ok]
  unfold mPopAt
  dsimp only
  rw [e4]
  dsimp only
  rw [if_pos (by omega), seqIx (List.getElem?_eq_some_iff.mp hx).1]
  dsimp only
  rw [hx]
/-! several at once -/
def EM (P : PE) (a : DA) (Rm : List Arg → PE → Prop) : Prop := ∀ f E S, Sd f P E S → ∃ as P' xs S' f', Rm as P' ∧ a E S = .ok xs S' ∧ Sd f' P' E S' ∧ Sub f f' ∧ ArgsOk f f' E xs as ∧ (freshA xs as).Nodup ∧ ∀ n ∈ freshA xs as, f n = none
theorem EM.nil {Rm : List Arg → PE → Prop} (h : Rm [] P) : EM P aNil Rm := fun f E S s => ⟨[], P, [], S, f, h, rfl, s, Sub.refl f, trivial, .nil, fun n h => by cases h⟩
theorem EM.cons {Rm : List Arg → PE → Prop} (h : EE P ma R1) (h' : ∀ x P1, R1 x P1 → EM P1 da fun as P2 => Rm (.d x :: as) P2) : EM P (aCons ma da) Rm := fun f E S s => by
  obtain ⟨x, P1, S1, r1, e1, s1⟩ := h f E S s
  obtain ⟨as, P2, xs, S2, f', r2, e2, s2, u, q1, q2, q3⟩ := h' x P1 r1 f E S1 s1
  have e : freshA (x :: xs) (.d x :: as) = freshA xs as := by cases x <;> rfl
  exact ⟨_, P2, x :: xs, S2, f', r2, by rw [e_acons, e1, Dn.R.bind_ok, e2, Dn.R.bind_ok], s2, u, ⟨rfl, q1⟩, by rw [e]; exact q2, by rw [e]; exact q3⟩
theorem EM.consN {Rm : List Arg → PE → Prop} {Rc : Cell → PE → Prop} (h : EN P ma Rc) (h' : ∀ c P1, Rc c P1 → EM P1 da fun as P2 => Rm (.h none c :: as) P2) : EM P (aCons ma da) Rm := fun f E S s => by
  obtain ⟨c, P1, n, S1, r1, e1, hn, s1⟩ := h f E S s
  obtain ⟨as, P2, xs, S2, f', r2, e2, s2, u, q1, q2, q3⟩ := h' c P1 r1 _ E S1 s1
  have u1 := Sub.add (c := c) hn
  refine ⟨_, P2, .ref n :: xs, S2, f', r2, by rw [e_acons, e1, Dn.R.bind_ok, e2, Dn.R.bind_ok], s2, u1.trans u, ⟨⟨n, rfl, hn, u _ _ (Fr.add_same f)⟩, q1.sub (Sub.refl _) u1⟩, ?_, ?_⟩
  · show (n :: freshA xs as).Nodup
    refine List.nodup_cons.mpr ⟨fun z => ?_, q2⟩
    have := q3 n z
    rw [Fr.add_same] at this
    cases this
  · intro r hr
    rcases List.mem_cons.mp hr with rfl | hr
    · exact hn
    · exact u1.none (q3 r hr)
theorem QE.par {is : List Nat} (h : EM P da fun as P1 => is.length = as.length ∧ O (.nx (parP P1 is as))) : QE P (dPar is da) O := fun f E S st => by
  obtain ⟨as, P1, xs, S1, f', ⟨hl, r⟩, e1, s1, u, q1, q2, q3⟩ := h f E S st
  refine ⟨_, r, ?_⟩
  unfold dPar
  rw [e1, R.toS_ok, if_pos (by rw [args_len q1, hl]), parE_fold]
  exact par_ok is as xs f' P1 E E hl s1 q1 q2 q3 u st.kn
theorem QE.tupM {is : List Nat} (h : EM P da fun as P1 => is.length = as.length ∧ as.length ≤ sizeLine ∧ O (.nx (parP P1 is as))) : QE P (dAsg (dTup da) (gTp is.length (gNs is))) O := fun f E S st => by
  obtain ⟨as, P1, xs, S1, f', ⟨hl, hs, r⟩, e1, s1, u, q1, q2, q3⟩ := h f E S st
  have hx := args_len q1
  refine ⟨_, r, ?_⟩
  rw [e_asg, e_tup, e1, Dn.R.bind_ok, mkTup_ok (by omega), R.toS_ok, e_gtp, if_pos (by omega), gNs_ok is xs E (by omega)]
  exact par_ok is as xs f' P1 E E hl s1 q1 q2 q3 u st.kn
/-! loops -/
theorem for_outE {W : PE → Prop} (I : Nat → PE → Prop) (hW : ∀ i P, I i P → W P) {f : Fr} {chk : Store → Bool} (hc : ∀ P2 E2 S2, W P2 → Sd f P2 E2 S2 → chk S2 = true) : ∀ (xs : List D) (i : Nat) (P : PE), I i P →
    (∀ P, I (i + xs.length) P → O (.nx P)) → (∀ r x P, xs[r]? = some x → I (i + r) P → ∃ ws P2, Tg ws P g x P2 ∧ QE P2 st (LoopO (I (i + r + 1)) O)) →
    ∀ E S, Sd f P E S → ∃ o, O o ∧ Fits f (forL chk g st xs E S) o
  | [], i, P, h, he, _, E, S, t => ⟨.nx P, he P h, by
    unfold forL
    rw [if_pos (hc P E S (hW _ _ h) t)]
    exact t⟩
  | x :: xs, i, P, h, he, hs, E, S, t => by
    obtain ⟨ws, P2, tg, q⟩ := hs 0 x P rfl h
    obtain ⟨E1, S1, e1, t1, _⟩ := tg f E S t
    obtain ⟨o, lo, ft⟩ := q f E1 S1 t1
    have go : ∀ P3, I (i + 1) P3 → ∀ E S, Sd f P3 E S → ∃ o, O o ∧ Fits f (forL chk g st xs E S) o := fun P3 h3 =>
      for_outE I hW hc xs (i + 1) P3 h3 (fun P hp => he P (by rw [List.length_cons]; rw [show i + (xs.length + 1) = i + 1 + xs.length by omega]; exact hp)) fun r y P hy hi => by
        have := hs (r + 1) y P (by simpa using hy) (by rw [show i + (r + 1) = i + 1 + r by omega]; exact hi)
        rw [show i + (r + 1) + 1 = i + 1 + r + 1 by omega] at this
        exact this
    have fl : forL chk g st (x :: xs) E S = (match st E1 S1 with
      | .nx env2 st2 => forL chk g st xs env2 st2
      | .ct env2 st2 => forL chk g st xs env2 st2
      | .bk env2 st2 => .nx env2 st2
      | r => r) := by
      show (if chk S then _ else _) = _
      rw [if_pos (hc P E S (hW _ _ h) t), e1]
      all_goals rfl
    rw [fl]
    cases hq : st E1 S1 with
    | nx E3 S3 =>
      rw [hq] at ft
      cases o with
      | nx P3 => exact go P3 lo E3 S3 ft
      | _ => exact ft.elim
    | ct E3 S3 =>
      rw [hq] at ft
      cases o with
      | ct P3 => exact go P3 lo E3 S3 ft
      | _ => exact ft.elim
    | bk E3 S3 =>
      rw [hq] at ft
      cases o with
      | bk P3 => exact ⟨.nx P3, lo, ft⟩
      | _ => exact ft.elim
    | rt d S3 =>
      rw [hq] at ft
      cases o with
      | rt v P3 => exact ⟨.rt v P3, lo, ft⟩
      | rn v P3 => exact ⟨.rn v P3, lo, ft⟩
      | _ => exact ft.elim
    | ex x E3 S3 =>
      rw [hq] at ft
      cases o with
      | ex v P3 => exact ⟨.ex v P3, lo, ft⟩
      | _ => exact ft.elim
    | bad => rw [hq] at ft; cases o <;> exact ft.elim
theorem QE.forI {W : PE → Prop} {it : DI} (I : Nat → PE → Prop) (hi : It P it xs P1 W) (h0 : I 0 P1) (hW : ∀ i P, I i P → W P) (he : ∀ P, I xs.length P → O (.nx P))
    (step : ∀ r x P, xs[r]? = some x → I r P → ∃ ws P2, Tg ws P g x P2 ∧ QE P2 st (LoopO (I (r + 1)) O)) : QE P (dFor it g st) O := fun f E S t => by
  obtain ⟨S1, chk, f', e1, t1, u, hc⟩ := hi f E S t
  obtain ⟨o, ho, ft⟩ := for_outE (g := g) (st := st) (O := O) I hW hc xs 0 P1 h0 (by simpa using he) (by simpa using step) E S1 t1
  exact ⟨o, ho, by rw [e_for, e1, R.toS_ok]; exact ft.weak u t.kn⟩
theorem while_outE (I : Nat → PE → Prop) (step : ∀ j P, I j P → EB P nb fun b P1 => (b = false → O (.nx P1)) ∧ (b = true → QE P1 st (LoopO (fun P2 => ∃ j', j' < j ∧ I j' P2) O))) :
    ∀ (k j : Nat) (P : PE), I j P → j < k → ∀ f E S, Sd f P E S → ∃ o, O o ∧ Fits f (whileL nb st k E S) o
  | 0, j, _, _, h, _, _, _, _ => absurd h (Nat.not_lt_zero _)
  | k + 1, j, P, h, hj, f, E, S, t => by
    obtain ⟨b, P1, S1, ⟨hf, ht⟩, e1, t1⟩ := step j P h f E S t
    cases b with
    | false => exact ⟨.nx P1, hf rfl, by unfold whileL; rw [e1, R.toS_ok, if_neg Bool.false_ne_true]; exact t1⟩
    | true =>
      obtain ⟨o, lo, ft⟩ := ht rfl f E S1 t1
      have fl : whileL nb st (k + 1) E S = (match st E S1 with
        | .nx env2 st2 => whileL nb st k env2 st2
        | .ct env2 st2 => whileL nb st k env2 st2
        | .bk env2 st2 => .nx env2 st2
        | r => r) := by
        show (nb E S).toS E _ = _
        rw [e1, R.toS_ok, if_pos rfl]
        all_goals rfl
      rw [fl]
      cases hq : st E S1 with
      | nx E3 S3 =>
        rw [hq] at ft
        cases o with
        | nx P3 =>
          obtain ⟨j', hj', h3⟩ := lo
          exact while_outE I step k j' P3 h3 (by omega) f E3 S3 ft
        | _ => exact ft.elim
      | ct E3 S3 =>
        rw [hq] at ft
        cases o with
        | ct P3 =>
          obtain ⟨j', hj', h3⟩ := lo
          exact while_outE I step k j' P3 h3 (by omega) f E3 S3 ft
        | _ => exact ft.elim
      | bk E3 S3 =>
        rw [hq] at ft
        cases o with
        | bk P3 => exact ⟨.nx P3, lo, ft⟩
        | _ => exact ft.elim
      | rt d S3 =>
        rw [hq] at ft
        cases o with
        | rt v P3 => exact ⟨.rt v P3, lo, ft⟩
        | rn v P3 => exact ⟨.rn v P3, lo, ft⟩
        | _ => exact ft.elim
      | ex x E3 S3 =>
        rw [hq] at ft
        cases o with
        | ex v P3 => exact ⟨.ex v P3, lo, ft⟩
        | _ => exact ft.elim
      | bad => rw [hq] at ft; cases o <;> exact ft.elim
theorem QE.whileI (I : Nat → PE → Prop) {j : Nat} (h0 : I j P) (hj : j < FU) (step : ∀ j P, I j P → EB P nb fun b P1 => (b = false → O (.nx P1)) ∧ (b = true → QE P1 st (LoopO (fun P2 => ∃ j', j' < j ∧ I j' P2) O))) : QE P (dWhile nb st) O :=
  fun f E S t => while_outE I step FU j P h0 hj f E S t
end
section
variable {f : Fr} {P P' P0 P1 P2 P3 P4 : PE} {E : Dn.Env} {S : Store} {i j n k s m a : Nat} {o : Option Nat} {c c' c0 : Cell} {x y z v w : D} {ma mb mc md : DE} {da : DA} {xs ys vs : List D} {g : DG} {R R1 R2 : D → PE → Prop} {O O' : Out → Prop} {st st' : DS} {nb nb' : DB} {b : Bool}
/-! defs -/
/-- a def that changes the first one's cell -/
theorem fn_boxE {m : DS} {Qs : List PV} {G : D → Cell → Prop} (hl : Qs.length + 1 = a) (hn : S[n]? = some c) (hx : ArgsP S xs Qs) (nd : (addrs (.c (some n) c :: Qs)).Nodup)
    (h : QE (.c (some n) c :: Qs ++ List.replicate (k - a) .any) m fun o => ∃ v P' c', o = .rt v P' ∧ P'[0]? = some (.c (some n) c') ∧ (∀ (i r : Nat) (d : Cell), Qs[i]? = some (.c (some r) d) → P'[i + 1]? = some (.c (some r) d)) ∧ D.lt 0 v = true ∧ c'.lt 0 = true ∧ G v c') :
    ∃ v c', G v c' ∧ trimF (dDef a k m) (.ref n :: xs) S = .ok v (S.set n c') := by
  have hx' : ArgsP S (.ref n :: xs) (.c (some n) c :: Qs) := ⟨⟨rfl, hn⟩, hx⟩
  obtain ⟨o, ⟨v, P', c', rfl, h0, hk, hv, hc, hG⟩, q⟩ := h _ _ _ (Sd.start hx' nd (k - a))
  refine ⟨v, c', hG, ?_⟩
  have q2 : Fits (fOf S (addrs (.c (some n) c :: Qs))) (m ((D.ref n :: xs).map some ++ List.replicate (k - a) none) S) (.rt v P') := q
  -- the same argument as of fn_box, for this one store
  cases e : m ((D.ref n :: xs).map some ++ List.replicate (k - a) none) S with
  | rt d S' =>
    rw [e] at q2
    obtain ⟨rfl, E', t⟩ := q2
    obtain ⟨n', a1, a2, a3, a4⟩ := t.cell h0
    obtain rfl := a4 n rfl
    obtain ⟨g, rfl⟩ := eq_set (S := S) (S' := S') hn a2 fun j d hne hj => by
      by_cases z : j ∈ addrs (.c (some n') c :: Qs)
      · have z' : j ∈ addrs Qs := (List.mem_cons.mp z).resolve_left hne
        obtain ⟨i, cc, hi⟩ := addrs_get z'
        obtain ⟨n2, b1, b2, b3, b4⟩ := t.cell (hk i j cc hi)
        obtain rfl := b4 j rfl
        obtain ⟨x, d1, d2⟩ := hx.get hi
        rw [d2.2] at hj
        cases hj
        exact b2
      · exact t.fr j d ((if_neg z).trans hj)
    have hcl : c'.lt S.length = true := by
      cases c' with
      | lst ys => exact D.lts_mono (Nat.zero_le _) hc
      | frz ys => exact D.lts_mono (Nat.zero_le _) hc
      | ins r fs => exact D.ltf_mono (Nat.zero_le _) hc
      | dN kvs => rfl
      | dK kvs =>
        simp only [Cell.lt, kvLt, List.all_eq_true] at hc ⊢
        exact fun x hx => D.lt_mono (Nat.zero_le _) (hc x hx)
      | dT kvs =>
        simp only [Cell.lt, kvLt, List.all_eq_true] at hc ⊢
        exact fun x hx => D.lt_mono (Nat.zero_le _) (hc x hx)
    exact trimF_ok (dDef_rt (by rw [hx'.len, List.length_cons, hl]) rfl e) (by simp) (D.lt_mono (Nat.zero_le _) hv) (Pn.Same.set g hcl)
  | _ => rw [e] at q2; exact q2.elim
/-- .. of data beside it -/
theorem fn_boxD {m : DS} {G : D → Cell → Prop} (hl : vs.length + 1 = a) (hn : S[n]? = some c)
    (h : QE (.c (some n) c :: vs.map .d ++ List.replicate (k - a) .any) m fun o => ∃ v P' c', o = .rt v P' ∧ P'[0]? = some (.c (some n) c') ∧ D.lt 0 v = true ∧ c'.lt 0 = true ∧ G v c') :
    ∃ v c', G v c' ∧ trimF (dDef a k m) (.ref n :: vs) S = .ok v (S.set n c') :=
  fn_boxE (Qs := vs.map .d) (by rw [List.length_map, hl]) hn ArgsP.data (by
    show (n :: addrs (vs.map .d)).Nodup
    rw [addrs_data]
    exact List.nodup_cons.mpr ⟨(fun z => by cases z), List.nodup_nil⟩) (h.mono fun o ⟨v, P', c', q1, q2, q3⟩ => ⟨v, P', c', q1, q2, fun i r d e => absurd e data_no, q3⟩)
/-- a law: True, whatever it leaves -/
theorem law_ok {m : DS} {N : Nat} {ns : List Int} (h : QE (.d (.scr ns) :: List.replicate (N - 1) .any) m fun o => ∃ P', o = .rt (.bl true) P') : ∃ st', dDef 1 N m [.scr ns] [] = .ok (.bl true) st' := by
  have t := Sd.start (S := []) (xs := [.scr ns]) (Ps := [.d (.scr ns)]) ⟨rfl, trivial⟩ .nil (N - 1)
  obtain ⟨o, ⟨P', rfl⟩, q⟩ := h _ _ _ t
  cases e : m ([D.scr ns].map some ++ List.replicate (N - 1) none) [] with
  | rt d S' =>
    rw [e] at q
    obtain ⟨rfl, _⟩ := q
    exact ⟨S', dDef_rt rfl rfl e⟩
  | _ => rw [e] at q; exact q.elim
end
end Qn
set_option Elab.async false
set_option linter.all false
set_option maxHeartbeats 1000000
set_option maxRecDepth 100000
/-! Qm1: two sides of a gate closed: the mathematics -/
namespace Qm
open PySem PySem.Spec L2 Dn Pn
/-! ### numbers of the sides that stay -/
def up (a b i : Nat) : Nat := if (if i < min a b then i else i + 1) < max a b then (if i < min a b then i else i + 1) else (if i < min a b then i else i + 1) + 1
/-- the partner of a closed side -/
def pj (a b : Nat) (i : Nat) : Option Nat := if i = a then some b else if i = b then some a else none
theorem pj_none {a b i : Nat} : pj a b i = none ↔ i ≠ a ∧ i ≠ b := by
  unfold pj
  (repeat' split) <;> simp_all
theorem pj_some {a b i c : Nat} (h : pj a b i = some c) : (i = a ∧ c = b) ∨ (i = b ∧ c = a) := by
  unfold pj at h
  split at h
  · exact .inl ⟨by assumption, by cases h; rfl⟩
  · split at h
    · exact .inr ⟨by assumption, by cases h; rfl⟩
    · cases h
abbrev Pt := Nat × Nat
/-! ### where one is led: on and on through closed sides -/
inductive Led (F : Pt → Pt) (j : Nat → Option Nat) : Nat → Pt → Pt → Prop
  | done {x : Pt} : j (F x).1 = none → Led F j 0 x (F x)
  | step {n : Nat} {x z : Pt} {b : Nat} : j (F x).1 = some b → Led F j n (b, (F x).2) z → Led F j (n + 1) x z
section
variable {F G : Pt → Pt} {j j' : Nat → Option Nat} {n n' : Nat} {x y z z' w : Pt} {b : Nat}
theorem Led.det (h : Led F j n x z) : ∀ {n' : Nat} {z' : Pt}, Led F j n' x z' → n = n' ∧ z = z' := by
  induction h with
  | done e =>
    intro n' z' h'
    cases h' with
    | done => exact ⟨rfl, rfl⟩
    | step e' _ => rw [e] at e'; cases e'
  | step e _ ih =>
    intro n' z' h'
    cases h' with
    | done e' => rw [e] at e'; cases e'
    | step e' t =>
      rw [e] at e'
      cases e'
      obtain ⟨a, b⟩ := ih t
      exact ⟨by rw [a], b⟩
open Classical in
noncomputable def led (F : Pt → Pt) (j : Nat → Option Nat) (x : Pt) : Pt := if h : ∃ n z, Led F j n x z then h.choose_spec.choose else x
theorem led_eq (h : Led F j n x z) : led F j x = z := by
  have hex : ∃ n z, Led F j n x z := ⟨n, z, h⟩
  unfold led
  rw [dif_pos hex]
  exact (hex.choose_spec.choose_spec.det h).2
end
/-- what turns s sides and m marks about -/
structure Perm (s m : Nat) (F : Pt → Pt) : Prop where
  maps : ∀ p : Pt, p.1 < s → p.2 < m → (F p).1 < s ∧ (F p).2 < m
  inj : ∀ p q : Pt, p.1 < s → p.2 < m → q.1 < s → q.2 < m → F p = F q → p = q
/-- partners: a side of the gate has one of the gate, whose partner it is -/
structure Part (s : Nat) (j : Nat → Option Nat) : Prop where
  lt : ∀ i b, j i = some b → b < s
  inv : ∀ i b, j i = some b → j b = some i
theorem Part.pj {s a b : Nat} (ha : a < s) (hb : b < s) : Part s (pj a b) := by
  refine ⟨fun i c h => ?_, fun i c h => ?_⟩
  · rcases pj_some h with ⟨_, rfl⟩ | ⟨_, rfl⟩ <;> assumption
  · rcases pj_some h with ⟨rfl, rfl⟩ | ⟨rfl, rfl⟩
    · unfold Qm.pj
      by_cases e : c = i
      · subst e; simp
      · rw [if_neg e, if_pos rfl]
    · unfold Qm.pj
      rw [if_pos rfl]
section
variable {s m : Nat} {F G : Pt → Pt} {j : Nat → Option Nat} {n : Nat} {x y z : Pt}
theorem Led.maps (hF : Perm s m F) (hj : Part s j) (h : Led F j n x z) : x.1 < s → x.2 < m → z.1 < s ∧ z.2 < m := by
  induction h with
  | done _ => exact fun h1 h2 => hF.maps _ h1 h2
  | step e _ ih => exact fun h1 h2 => ih (hj.lt _ _ e) (hF.maps _ h1 h2).2
/-- the row of passes from x on -/
def way (F : Pt → Pt) (j : Nat → Option Nat) (x : Pt) : Nat → Pt
  | 0 => F x
  | t + 1 => F (((j (way F j x t).1).getD 0), (way F j x t).2)
theorem way_led : ∀ (t : Nat) (x : Pt), (∀ u < t, (j (way F j x u).1).isSome) → j (way F j x t).1 = none → Led F j t x (way F j x t)
  | 0, x, _, h => .done h
  | t + 1, x, hu, h => by
    have h0 := hu 0 (by omega)
    obtain ⟨b, hb⟩ := Option.isSome_iff_exists.mp h0
    have sh : ∀ u, way F j x (u + 1) = way F j (b, (F x).2) u := fun u => by
      induction u with
      | zero =>
        show F ((j (F x).1).getD 0, (F x).2) = F (b, (F x).2)
        rw [show j (F x).1 = some b from hb]
        rfl
      | succ u ih =>
        show F ((j (way F j x (u + 1)).1).getD 0, (way F j x (u + 1)).2) = F ((j (way F j (b, (F x).2) u).1).getD 0, (way F j (b, (F x).2) u).2)
        rw [ih]
    rw [sh]
    exact .step hb (way_led t (b, (F x).2) (fun u hu' => by rw [← sh]; exact hu (u + 1) (by omega)) (by rw [← sh]; exact h))
theorem way_maps (hF : Perm s m F) (hj : Part s j) (h1 : x.1 < s) (h2 : x.2 < m) : ∀ t, (∀ u < t, (j (way F j x u).1).isSome) → (way F j x t).1 < s ∧ (way F j x t).2 < m
  | 0, _ => hF.maps _ h1 h2
  | t + 1, h => by
    have := way_maps hF hj h1 h2 t fun u hu => h u (by omega)
    obtain ⟨b, hb⟩ := Option.isSome_iff_exists.mp (h t (by omega))
    refine hF.maps _ ?_ this.2
    rw [hb]
    exact hj.lt _ _ hb
theorem way_inj (hF : Perm s m F) (hj : Part s j) (h1 : x.1 < s) (h2 : x.2 < m) (hx : j x.1 = none) : ∀ t u, t < u → (∀ v < u, (j (way F j x v).1).isSome) → way F j x t ≠ way F j x u
  | 0, u + 1, _, hv, e => by
    obtain ⟨b, hb⟩ := Option.isSome_iff_exists.mp (hv u (by omega))
    have hm := way_maps hF hj h1 h2 u fun v hv' => hv v (by omega)
    have e2 : x = ((j (way F j x u).1).getD 0, (way F j x u).2) := hF.inj x _ h1 h2 (by rw [hb]; exact hj.lt _ _ hb) hm.2 e
    have e3 : x.1 = b := by rw [e2, hb]; rfl
    rw [e3, hj.inv _ _ hb] at hx
    cases hx
  | t + 1, u + 1, h, hv, e => by
    obtain ⟨b, hb⟩ := Option.isSome_iff_exists.mp (hv u (by omega))
    obtain ⟨c, hc⟩ := Option.isSome_iff_exists.mp (hv t (by omega))
    have hm := way_maps hF hj h1 h2 u fun v hv' => hv v (by omega)
    have hm' := way_maps hF hj h1 h2 t fun v hv' => hv v (by omega)
    have e2 := hF.inj ((j (way F j x t).1).getD 0, (way F j x t).2) ((j (way F j x u).1).getD 0, (way F j x u).2) (by rw [hc]; exact hj.lt _ _ hc) hm'.2 (by rw [hb]; exact hj.lt _ _ hb) hm.2 e
    rw [hb, hc] at e2
    have e3 : c = b := congrArg (·.1) e2
    have e4 : (way F j x t).2 = (way F j x u).2 := congrArg (·.2) e2
    have e5 : (way F j x t).1 = (way F j x u).1 := by
      have z1 := hj.inv _ _ hb
      have z2 := hj.inv _ _ hc
      rw [e3, z1] at z2
      exact (Option.some.inj z2).symm
    exact way_inj hF hj h1 h2 hx t u (by omega) (fun v hv' => hv v (by omega)) (Prod.ext e5 e4)
theorem led_ex (hF : Perm s m F) (hj : Part s j) (h1 : x.1 < s) (h2 : x.2 < m) (hx : j x.1 = none) : ∃ n z, n ≤ s * m ∧ Led F j n x z := by
  by_cases hall : ∀ u < s * m + 1, (j (way F j x u).1).isSome
  · exfalso
    let l := (List.range (s * m + 1)).map (way F j x)
    have hnd : l.Nodup := by
      refine nodup_map List.nodup_range fun a ha b hb e => ?_
      have ha' := List.mem_range.mp ha
      have hb' := List.mem_range.mp hb
      rcases Nat.lt_trichotomy a b with h | h | h
      · exact absurd e (way_inj hF hj h1 h2 hx a b h fun v hv => hall v (by omega))
      · exact h
      · exact absurd e.symm (way_inj hF hj h1 h2 hx b a h fun v hv => hall v (by omega))
    have hsub : ∀ p ∈ l, p ∈ allP s m := fun p hp => by
      obtain ⟨t, ht, rfl⟩ := List.mem_map.mp hp
      exact mem_allP.mpr (way_maps hF hj h1 h2 t fun v hv => hall v (by have := List.mem_range.mp ht; omega))
    have hlen : (allP s m).length ≤ l.length := by rw [allP_len]; simp [l]
    have := (subset_perm hnd hsub hlen).length_eq
    rw [allP_len] at this
    simp [l] at this
  · have hex : ∃ t, t < s * m + 1 ∧ ¬ (j (way F j x t).1).isSome := by
      refine Classical.byContradiction fun hn => hall fun u hu => Classical.byContradiction fun hu2 => hn ⟨u, hu, hu2⟩
    have least : ∀ t, t < s * m + 1 → ¬ (j (way F j x t).1).isSome → ∃ u, u < s * m + 1 ∧ j (way F j x u).1 = none ∧ ∀ v < u, (j (way F j x v).1).isSome := by
      intro t
      induction t using Nat.strongRecOn with
      | ind t ih =>
        intro ht hn
        by_cases hv : ∀ v < t, (j (way F j x v).1).isSome
        · exact ⟨t, ht, by simpa using hn, hv⟩
        · obtain ⟨v, hv'⟩ := Classical.not_forall.mp hv
          obtain ⟨hvt, hvn⟩ := Classical.not_imp.mp hv'
          exact ih v hvt (by omega) hvn
    obtain ⟨t, ht, hn⟩ := hex
    obtain ⟨u, hu, hu1, hu2⟩ := least t ht hn
    exact ⟨u, _, by omega, way_led u x hu2 hu1⟩
theorem led_spec (hF : Perm s m F) (hj : Part s j) (h1 : x.1 < s) (h2 : x.2 < m) (hx : j x.1 = none) : ∃ n, n ≤ s * m ∧ Led F j n x (led F j x) := by
  obtain ⟨n, z, hn, h⟩ := led_ex hF hj h1 h2 hx
  exact ⟨n, hn, by rw [led_eq h]; exact h⟩
/-! ### led back -/
def Inv (s m : Nat) (F G : Pt → Pt) : Prop := ∀ p : Pt, p.1 < s → p.2 < m → G (F p) = p
theorem led_back (hF : Perm s m F) (hj : Part s j) (hG : Inv s m F G) (h : Led F j n x z) : x.1 < s → x.2 < m → ∀ w, ((j x.1 = none ∧ w = x) ∨ ∃ b k, j x.1 = some b ∧ Led G j k (b, x.2) w) → ∃ k, Led G j k z w := by
  induction h with
  | @done x e =>
    intro h1 h2 w hw
    have hg := hG _ h1 h2
    rcases hw with ⟨hx, rfl⟩ | ⟨b, k, hb, t⟩
    · have := Led.done (F := G) (j := j) (x := F w) (by rw [hg]; exact hx)
      rw [hg] at this
      exact ⟨0, this⟩
    · exact ⟨k + 1, .step (x := F x) (by rw [hg]; exact hb) (by rw [hg]; exact t)⟩
  | @step n x z b e t ih =>
    intro h1 h2 w hw
    have hg := hG _ h1 h2
    refine ih (hj.lt _ _ e) (hF.maps _ h1 h2).2 w (.inr ⟨(F x).1, ?_⟩)
    have hb' := hj.inv _ _ e
    rcases hw with ⟨hx, rfl⟩ | ⟨c, k, hc, t'⟩
    · have := Led.done (F := G) (j := j) (x := F w) (by rw [hg]; exact hx)
      rw [hg] at this
      exact ⟨0, hb', this⟩
    · exact ⟨k + 1, hb', .step (x := F x) (by rw [hg]; exact hc) (by rw [hg]; exact t')⟩
theorem led_turn (hF : Perm s m F) (hj : Part s j) (hG : Inv s m F G) (h1 : x.1 < s) (h2 : x.2 < m) (hx : j x.1 = none) : led G j (led F j x) = x := by
  obtain ⟨n, _, h⟩ := led_spec hF hj h1 h2 hx
  obtain ⟨k, t⟩ := led_back hF hj hG h h1 h2 x (.inl ⟨hx, rfl⟩)
  exact led_eq t
end
end Qm
set_option Elab.async false
set_option linter.all false
set_option maxHeartbeats 1000000
set_option maxRecDepth 100000
/-! Qm2: closed gates -/
namespace Qm
open PySem PySem.Spec L2 Dn Pn
def FG (g : Gate) (p : Pt) : Pt := FF g p.2 p.1
section
variable {s m a b : Nat} {g : Gate}
theorem FG_mem (h : IsGate s m g) {p : Pt} (h1 : p.1 < s) (h2 : p.2 < m) : gat g p.2 p.1 = some (FG g p) := gat_FF h.len h.rows h2 h1
theorem gat_flat {k i : Nat} {p : Pt} (h : gat g k i = some p) : p ∈ g.flatten := by
  unfold gat at h
  obtain ⟨r, h1, h2⟩ := Option.bind_eq_some_iff.mp h
  exact List.mem_flatten.mpr ⟨r, List.mem_of_getElem? h1, List.mem_of_getElem? h2⟩
theorem _root_.Pn.IsGate.nd {s m : Nat} {g : Gate} (h : IsGate s m g) : g.flatten.Nodup := h.perm.nodup_iff.mpr (nodup_allP s m)
theorem _root_.Pn.IsGate.pm {s m : Nat} {g : Gate} (h : IsGate s m g) : Perm s m (FG g) := by
  refine ⟨fun p h1 h2 => ?_, fun p q h1 h2 h3 h4 e => ?_⟩
  · exact mem_allP.mp (h.perm.mem_iff.mp (gat_flat (FG_mem h h1 h2)))
  · have e1 := FG_mem h h1 h2
    have e2 := FG_mem h h3 h4
    rw [← e] at e2
    obtain ⟨q1, q2⟩ := gat_uniq h.nd e1 e2
    exact Prod.ext q2 q1
end
/-! ### beside another gate -/
/-! ### two pairs, whichever first -/
end Qm
set_option Elab.async false
set_option linter.all false
set_option maxHeartbeats 1000000
set_option maxRecDepth 100000
/-! Pc1: passed, led_through, closed -/
namespace Pc
open PySem PySem.Spec L2 Dn Pn Qn Qm
section
variable {s m a b i k : Nat} {g : Gate}
theorem ex_range {P : PE} {ma mb : DE} {i n : Nat} (ha : Ex P ma (.int (i : Nat)) P) (hb : Ex P mb (.int (n : Nat)) P) : ExB P (dTNot (dTest (dChain vLe vLt (dC (.int 0)) ma mb))) (!decide (i < n)) P := by
  have e := (ExB.test (Ex.chain (q := fun i j => decide (i ≤ j)) (q' := fun i j => decide (i < j)) (Ex.con (.int 0)) ha hb)).not
  have e2 : (decide ((0 : Int) ≤ (i : Nat)) && decide (((i : Nat) : Int) < (n : Nat))) = decide (i < n) := by
    by_cases h : i < n
    · simp [h]
    · simp [h]
  rw [e2] at e
  exact e
/-! ### led_through -/
def jointC (a b : Nat) : Cell := .dK [(.inl (a : Nat), .int (b : Nat)), (.inl (b : Nat), .int (a : Nat))]
theorem look_joint (i : Nat) : look (jointC a b) (.int (i : Nat)) = some ((pj a b i).map fun c => .int (c : Nat)) := by
  show some (valD _ _) = _
  congr 1
  unfold valD pj
  rw [List.find?_cons]
  by_cases h1 : i = a
  · subst h1
    simp
  · have e1 : ¬ ((Sum.inl (a : Int) : Key) = Sum.inl (i : Int)) := fun e => h1 (by injection e with e; omega)
    rw [decide_eq_false e1, if_neg h1]
    dsimp only
    rw [List.find?_cons]
    by_cases h2 : i = b
    · subst h2
      simp
    · have e2 : ¬ ((Sum.inl (b : Int) : Key) = Sum.inl (i : Int)) := fun e => h2 (by injection e with e; omega)
      rw [decide_eq_false e2, if_neg h2]
      rfl
theorem t_inJ (neg : Bool) (i : Nat) : ∀ S n, S[n]? = some (jointC a b) → vIn neg (.int (i : Nat)) (.ref n) S = .ok (.bl (if neg then !(pj a b i).isSome else (pj a b i).isSome)) S := fun S n e => by
  unfold vIn
  dsimp only
  rw [e]
  have := look_joint (a := a) (b := b) i
  unfold jointC at this ⊢
  dsimp only
  rw [this]
  dsimp only
  rw [Option.isSome_map]
theorem t_ixJ {c : Nat} (h : pj a b i = some c) : ∀ S n, S[n]? = some (jointC a b) → vIx (.ref n) (.int (i : Nat)) S = .ok (.int (c : Nat)) S := fun S n e => by
  unfold vIx
  dsimp only
  rw [e]
  have := look_joint (a := a) (b := b) i
  unfold jointC at this ⊢
  dsimp only
  rw [this, h]
  rfl
def ledD : DS := (dSeq (dAsg (dBin vIx (dBin vIx (dVar 0) (dVar 2)) (dVar 1)) (gTp 2 (gsCons (gNm 1) (gsCons (gNm 2) gsNil)))) (dSeq (dWhile (dTest (dBin (vIn false) (dVar 1) (dVar 3))) (dAsg (dBin vIx (dBin vIx (dVar 0) (dVar 2)) (dBin vIx (dVar 3) (dVar 1))) (gTp 2 (gsCons (gNm 1) (gsCons (gNm 2) gsNil))))) (dRet (dTup (aCons (dVar 1) (aCons (dVar 2) aNil))))))
noncomputable def FLedT : DF := trimF (dDef 4 4 ledD)
def ledP (g : Gate) (y : Pt) (n a b : Nat) : PE := [.d (gateD g), .d (.int (y.1 : Nat)), .d (.int (y.2 : Nat)), .c (some n) (jointC a b)]
theorem led_ok (h : Shape s m g) (hg : IsGate s m g) (ha : a < s) (hb : b < s) (hi : i < s) (hk : k < m) (h1 : i ≠ a) (h2 : i ≠ b) : ∀ S n, S[n]? = some (jointC a b) → FLedT [gateD g, .int (i : Nat), .int (k : Nat), .ref n] S = .ok (pairD (led (FG g) (pj a b) (i, k))) S := fun S n hS => by
  have hj := Part.pj (a := a) (b := b) ha hb
  obtain ⟨r, hr, t⟩ := led_spec (x := (i, k)) hg.pm hj hi hk (pj_none.mpr ⟨h1, h2⟩)
  obtain ⟨z, hz⟩ : ∃ z, z = led (FG g) (pj a b) (i, k) := ⟨_, rfl⟩
  rw [← hz] at t ⊢
  obtain ⟨z1, z2⟩ := t.maps hg.pm hj hi hk
  have hbound : s * m ≤ 1000000 := Nat.mul_le_mul h.s1 h.m1
  -- what holds ahead of each turn
  let I : Nat → PE → Prop := fun j P => ∃ y : Pt, y.1 < s ∧ y.2 < m ∧ P = ledP g y n a b ∧ ((pj a b y.1 = none ∧ y = z) ∨ ∃ c j', pj a b y.1 = some c ∧ j = j' + 1 ∧ Led (FG g) (pj a b) j' (c, y.2) z)
  have start : ∀ {r : Nat} {x : Pt}, Led (FG g) (pj a b) r x z → x.1 < s → x.2 < m → I r (ledP g (FG g x) n a b) := fun {r x} t hx1 hx2 => by
    obtain ⟨q1, q2⟩ := hg.pm.maps x hx1 hx2
    refine ⟨FG g x, q1, q2, rfl, ?_⟩
    cases t with
    | done e => exact .inl ⟨e, rfl⟩
    | step e t => exact .inr ⟨_, _, e, rfl, t⟩
  obtain ⟨o, ho, hw⟩ := QS.whileP (nb := dTest (dBin (vIn false) (dVar 1) (dVar 3))) (s := dAsg (dBin vIx (dBin vIx (dVar 0) (dVar 2)) (dBin vIx (dVar 3) (dVar 1))) (gTp 2 (gsCons (gNm 1) (gsCons (gNm 2) gsNil)))) I (fun o => o = .nx (ledP g z n a b)) (start t hi hk) (by unfold FU; omega) (by
    rintro j P ⟨y, y1, y2, rfl, hy⟩
    refine ⟨(pj a b y.1).isSome, ledP g y n a b, .test (.binD (.var rfl) (.var rfl) ⟨_, rfl⟩ (t_inJ false y.1)), fun hf => ?_, fun ht => ?_⟩
    · rcases hy with ⟨_, rfl⟩ | ⟨c, j', e, _⟩
      · rfl
      · rw [e] at hf; cases hf
    · rcases hy with ⟨e, _⟩ | ⟨c, j', e, rfl, t'⟩
      · rw [e] at ht; cases ht
      · have hc := hj.lt _ _ e
        have st := start t' hc y2
        exact ⟨.nx (ledP g (FG g (c, y.2)) n a b), .asgT (.cell h y2 hc (.var rfl) (.var rfl) (.binH (.var (i := 3) rfl) (.var rfl) ⟨_, rfl⟩ (t_ixJ e))) (.tp2 1 2 _ _), ⟨j', by omega, st⟩⟩)
  subst ho
  refine fn_ok (Ps := ledP g (i, k) n a b) (P' := ledP g z n a b) rfl (QS.seq (P1 := ledP g (FG g (i, k)) n a b) (.asgT (.cell h hk hi (.var rfl) (.var rfl) (.var rfl)) (.tp2 1 2 _ _)) (QS.seq hw (.ret (.tup2 (.var rfl) (.var rfl))))) (fun q r c e => ?_) (by simp [pairD]) (List.nodup_cons.mpr ⟨(fun z => by cases z), List.nodup_nil⟩) ⟨rfl, rfl, rfl, ⟨rfl, hS⟩, trivial⟩
  match q, e with
  | 3, e => exact e
/-! ### closed -/
end
end Pc
set_option Elab.async false
set_option linter.all false
set_option maxHeartbeats 1000000
set_option maxRecDepth 100000
/-! Pc2: k06's own defs -/
namespace Pc
open PySem PySem.Spec L2 Dn Pn Qn Qm
section
variable {s m a b i k n : Nat} {g : Gate}
/-! ### pairs drawn -/
def iD (i : Nat) : D := .int (i : Nat)
end
end Pc
set_option Elab.async false
set_option linter.all false
set_option maxHeartbeats 1000000
set_option maxRecDepth 100000
namespace Pn
open PySem PySem.Spec L2 Dn
/-! ### k04's law -/
theorem Da.gate (g : Gate) : Da 3 (gateD g) := .tup fun r hr => by
  obtain ⟨r, _, rfl⟩ := List.mem_map.mp hr
  exact .tup fun p hp => by
    obtain ⟨p, _, rfl⟩ := List.mem_map.mp hp
    exact .tup fun x hx => by
      simp only [List.mem_cons, List.not_mem_nil, or_false] at hx
      rcases hx with rfl | rfl <;> exact .int _
end Pn
set_option Elab.async false
set_option linter.all false
set_option maxHeartbeats 1000000
set_option maxRecDepth 100000
namespace Pn
open PySem PySem.Spec L2 Dn
/-! ### repr of gates -/
def Sok (x : Str) : Prop := ∀ c ∈ x.cps.toList, c < 0x110000
theorem Sok.ok {x : Str} (h : Sok x) : Ok 0 (.str x) := by
  refine ⟨?_, by simp [PyData.depth]⟩
  simp only [PyData.canLay0]
  unfold PyData.strOk
  rw [Array.all_eq_true']
  intro c hc
  exact decide_eq_true (h c (Array.mem_toList_iff.mpr hc))
theorem sok_of (s : String) : Sok (Str.ofString s) := by
  intro c hc
  rw [Str.ofString_eq_toList] at hc
  simp only [List.toList_toArray, List.mem_map] at hc
  obtain ⟨ch, _, rfl⟩ := hc
  have h := ch.valid
  show ch.val.toNat < 0x110000
  rcases h with h | h
  · exact Nat.lt_trans h (by decide)
  · exact h.2
theorem Sok.app {x y : Str} (h : Sok x) (h' : Sok y) : Sok (x ++ y) := by
  intro c hc
  have e : (x ++ y).cps = x.cps ++ y.cps := rfl
  rw [e, Array.toList_append, List.mem_append] at hc
  exact hc.elim (h c) (h' c)
theorem sok_join {s : Str} (hs : Sok s) : ∀ {ts : List Str}, (∀ t ∈ ts, Sok t) → Sok (Str.join s ts)
  | [], _ => sok_of ""
  | [x], h => h x (List.mem_cons_self ..)
  | x :: y :: r, h => ((h x (List.mem_cons_self ..)).app hs).app (sok_join hs fun t ht => h t (List.mem_cons_of_mem _ ht))
theorem shownAll_mem {t : Str} : ∀ {xs : List PyData}, t ∈ PyData.shownAll xs → ∃ x ∈ xs, t = x.shown
  | [], h => by simp [PyData.shownAll] at h
  | x :: xs, h => by
    rw [PyData.shownAll_cons] at h
    rcases List.mem_cons.mp h with rfl | h
    · exact ⟨x, List.mem_cons_self .., rfl⟩
    · obtain ⟨y, hy, e⟩ := shownAll_mem h
      exact ⟨y, List.mem_cons_of_mem _ hy, e⟩
theorem sok_int (i : Int) : Sok (PyData.int i).shown := by
  rw [PyData.shown_int]
  exact sok_of _
theorem sok_tuple {xs : List PyData} (h : ∀ x ∈ xs, Sok x.shown) : Sok (PyData.tuple xs).shown := by
  rw [PyData.shown_tuple]
  exact ((sok_of _).app (sok_join (sok_of _) fun t ht => by
    obtain ⟨x, hx, rfl⟩ := shownAll_mem ht
    exact h x hx)).app (sok_of _)
theorem sok_list {xs : List PyData} (h : ∀ x ∈ xs, Sok x.shown) : Sok (PyData.list xs).shown := by
  rw [PyData.shown_list]
  exact ((sok_of _).app (sok_join (sok_of _) fun t ht => by
    obtain ⟨x, hx, rfl⟩ := shownAll_mem ht
    exact h x hx)).app (sok_of _)
/-- data fit for repr: shown, no dict, not deep, not heavy -/
structure Rp (k w : Nat) (p : PyData) : Prop where
  show_ : p.showable = true
  dict : p.hasDict = false
  depth : p.depth ≤ k
  short : p.leavesShort 13 = true
  weight : p.weight ≤ w
  sok : Sok p.shown
theorem Rp.int {i : Nat} (h : i < 1024) : Rp 0 10 (.int (i : Nat)) := by
  have hl : i.log2 < 10 ∨ i = 0 := by
    by_cases h0 : i = 0
    · exact .inr h0
    · exact .inl ((Nat.log2_lt h0).mpr h)
  have hl2 : i.log2 < 10 := by
    rcases hl with h | h
    · exact h
    · subst h; decide
  refine ⟨?_, by simp [PyData.hasDict], by simp [PyData.depth], ?_, ?_, sok_int _⟩
  · simp only [PyData.showable, Int.natAbs_natCast]
    exact decide_eq_true (by omega)
  · simp only [PyData.leavesShort]
    exact decide_eq_true (PyData.shown_int_le (by simp only [Int.natAbs_natCast]; exact Nat.lt_trans h (by decide)))
  · simp only [PyData.weight, Int.natAbs_natCast]
    split <;> omega
theorem showAll {xs : List PyData} (h : ∀ x ∈ xs, x.showable = true) : PyData.showableAll xs = true := by
  induction xs with
  | nil => simp [PyData.showableAll]
  | cons x xs ih => simp [PyData.showableAll, h x (List.mem_cons_self ..), ih fun q hq => h q (List.mem_cons_of_mem _ hq)]
theorem dictAll {xs : List PyData} (h : ∀ x ∈ xs, x.hasDict = false) : PyData.hasDictAll xs = false := by
  induction xs with
  | nil => simp [PyData.hasDictAll]
  | cons x xs ih => simp [PyData.hasDictAll, h x (List.mem_cons_self ..), ih fun q hq => h q (List.mem_cons_of_mem _ hq)]
theorem shortAll {xs : List PyData} (h : ∀ x ∈ xs, x.leavesShort 13 = true) : PyData.leavesShortAll 13 xs = true := by
  induction xs with
  | nil => simp [PyData.leavesShortAll]
  | cons x xs ih => simp [PyData.leavesShortAll, h x (List.mem_cons_self ..), ih fun q hq => h q (List.mem_cons_of_mem _ hq)]
theorem weightAll {w : Nat} {xs : List PyData} (h : ∀ x ∈ xs, x.weight ≤ w) : PyData.weightAll xs ≤ xs.length * (w + 1) := by
  induction xs with
  | nil => simp [PyData.weightAll]
  | cons x xs ih =>
    have h1 := h x (List.mem_cons_self ..)
    have h2 := ih fun q hq => h q (List.mem_cons_of_mem _ hq)
    simp only [PyData.weightAll, List.length_cons, Nat.add_mul, Nat.one_mul]
    omega
theorem Rp.tup {k w n : Nat} {xs : List PyData} (h : ∀ x ∈ xs, Rp k w x) (hn : xs.length ≤ n) : Rp (k + 1) (n * (w + 1)) (.tuple xs) :=
  ⟨by simp only [PyData.showable]; exact showAll fun x hx => (h x hx).show_, by simp only [PyData.hasDict]; exact dictAll fun x hx => (h x hx).dict,
    by simp only [PyData.depth]; exact Nat.succ_le_succ (depth_all fun p hp => (h p hp).depth), by simp only [PyData.leavesShort]; exact shortAll fun x hx => (h x hx).short,
    by simp only [PyData.weight]; exact Nat.le_trans (weightAll fun x hx => (h x hx).weight) (Nat.mul_le_mul_right _ hn), sok_tuple fun x hx => (h x hx).sok⟩
theorem Rp.lst {k w n : Nat} {xs : List PyData} (h : ∀ x ∈ xs, Rp k w x) (hn : xs.length ≤ n) : Rp (k + 1) (n * (w + 1)) (.list xs) :=
  ⟨by simp only [PyData.showable]; exact showAll fun x hx => (h x hx).show_, by simp only [PyData.hasDict]; exact dictAll fun x hx => (h x hx).dict,
    by simp only [PyData.depth]; exact Nat.succ_le_succ (depth_all fun p hp => (h p hp).depth), by simp only [PyData.leavesShort]; exact shortAll fun x hx => (h x hx).short,
    by simp only [PyData.weight]; exact Nat.le_trans (weightAll fun x hx => (h x hx).weight) (Nat.mul_le_mul_right _ hn), sok_list fun x hx => (h x hx).sok⟩
theorem Rp.up {k w k' w' : Nat} {p : PyData} (h : Rp k w p) (h1 : k ≤ k') (h2 : w ≤ w') : Rp k' w' p := ⟨h.show_, h.dict, Nat.le_trans h.depth h1, h.short, Nat.le_trans h.weight h2, h.sok⟩
/-- a gate, a list of gates -/
theorem Rp.gate {s m : Nat} {g : Gate} (h : Shape s m g) (hg : IsGate s m g) (hs : s ≤ 20) (hm : m ≤ 200) : Rp 3 100000 (gateP g) := by
  have hr : ∀ r ∈ g, Rp 2 460 (rowP r) := fun r hr => by
    have hp : ∀ p ∈ r, Rp 1 22 (pairP p) := fun p hp => by
      obtain ⟨a, b⟩ := mem_allP.mp (hg.perm.mem_iff.mp (List.mem_flatten.mpr ⟨r, hr, hp⟩))
      refine Rp.tup (n := 2) (w := 10) (fun x hx => ?_) (Nat.le_refl _)
      simp only [List.mem_cons, List.not_mem_nil, or_false] at hx
      rcases hx with rfl | rfl
      · exact Rp.int (by omega)
      · exact Rp.int (by omega)
    refine Rp.tup (n := 20) (w := 22) (fun x hx => ?_) (by rw [List.length_map, h.rows r hr]; exact hs)
    obtain ⟨p, hp', rfl⟩ := List.mem_map.mp hx
    exact hp p hp'
  refine (Rp.tup (n := 200) (w := 460) (fun x hx => ?_) (by rw [List.length_map, h.len]; exact hm)).up (Nat.le_refl _) (by decide)
  obtain ⟨r, hr', rfl⟩ := List.mem_map.mp hx
  exact hr r hr'
end Pn
set_option Elab.async false
set_option linter.all false
set_option maxHeartbeats 1000000
set_option maxRecDepth 100000
namespace Pn
open PySem PySem.Spec L2 Dn
end Pn
set_option Elab.async false
set_option linter.all false
set_option maxRecDepth 100000
set_option maxHeartbeats 1000000
set_option Elab.async false
set_option linter.all false
set_option maxHeartbeats 1000000
set_option maxRecDepth 100000
/-! Pc3: k06's rows and law -/
namespace Pc
open PySem PySem.Spec L2 Dn Pn Qn Qm
end Pc
set_option Elab.async false
set_option linter.all false
set_option maxHeartbeats 1000000
set_option maxRecDepth 100000
/-! Pc4: k06's law -/
namespace Pc
open PySem PySem.Spec L2 Dn Pn Qn Qm
section
variable {s m sm mm k : Nat} {g more : Gate} {ns : List Int} {c : Cell} {x3 x4 x5 x6 x7 x8 x9 x10 x11 : PV}
theorem EN.call {F : DF} {da : DA} {P : Qn.PE} {Rc : Cell → Qn.PE → Prop} (h : EA P da fun xs P' => ∀ S, ∃ n g c, Rc c P' ∧ F xs S = .ok (.ref n) (S ++ g) ∧ S.length ≤ n ∧ (S ++ g)[n]? = some c) : EN P (dCall F da) Rc := fun f E S s => by
  obtain ⟨xs, P1, S1, hF, e1, s1⟩ := h f E S s
  obtain ⟨n, g, c, r, e2, hn, hc⟩ := hF S1
  obtain ⟨q1, q2⟩ := s1.newAt hn hc
  exact ⟨c, P1, n, _, r, by rw [e_call, e1, Dn.R.bind_ok, e2], q1, q2⟩
/-- 1 + a number below m -/
theorem onePlus {P : Qn.PE} {i m : Nat} {o : Option Nat} {c : Cell} {R : D → Qn.PE → Prop} (hi : P[i]? = some (.c o c)) (hb : IsBox c) (h1 : 0 < m) (h2 : m ≤ 1000000) (hr : ∀ (d : Nat) (c' : Cell), d < m → IsBox c' → R (.int ((1 + d : Nat) : Int)) (P.set i (.c o c'))) : EE P (dBin vAdd (dC (.int 1)) (dCall FTake (aCons (dVar i) (aCons (dC (.int (m : Nat))) aNil)))) R :=
  .bin ((Ex.con _).ee (R := fun v P' => v = .int 1 ∧ P' = P) ⟨rfl, rfl⟩) (by
    rintro _ _ ⟨rfl, rfl⟩
    exact .draw hi (.con _) hi hb h1 h2 fun d c' hd hc' => ⟨_, t_add, hr d c' hd hc'⟩)
end
end Pc
set_option Elab.async false
set_option linter.all false
set_option maxHeartbeats 1000000
set_option maxRecDepth 100000
/-! Pc5: k06's law, whole -/
namespace Pc
open PySem PySem.Spec L2 Dn Pn Qn Qm
/-- max(a, min(b, len)) -/
theorem mm_ok {P : Qn.PE} {ns : List Int} {a b : Nat} (hab : a ≤ b) (hP : P[0]? = some (.d (.scr ns))) : ∃ N : Nat, N ≤ b ∧ Ex P (dCall bMax (aCons (dC (.int (a : Nat))) (aCons (dCall bMin (aCons (dC (.int (b : Nat))) (aCons (dCall bLen (aCons (dVar 0) aNil)) aNil))) aNil))) (.int (N : Nat)) P := by
  have e : ∃ N : Nat, N ≤ b ∧ ((N : Nat) : Int) = (if (if (ns.length : Int) < (b : Nat) then (ns.length : Int) else (b : Nat)) > (a : Nat) then (if (ns.length : Int) < (b : Nat) then (ns.length : Int) else (b : Nat)) else ((a : Nat) : Int)) := by
    by_cases h1 : (ns.length : Int) < (b : Nat)
    · rw [if_pos h1]
      by_cases h2 : (ns.length : Int) > (a : Nat)
      · rw [if_pos h2]; exact ⟨ns.length, by omega, rfl⟩
      · rw [if_neg h2]; exact ⟨a, hab, rfl⟩
    · rw [if_neg h1]
      by_cases h2 : ((b : Nat) : Int) > (a : Nat)
      · rw [if_pos h2]; exact ⟨b, Nat.le_refl _, rfl⟩
      · rw [if_neg h2]; exact ⟨a, hab, rfl⟩
  obtain ⟨N, hN, e⟩ := e
  refine ⟨N, hN, ?_⟩
  rw [e]
  exact .call (.two (.con _) (.call (.two (.con _) (.call (.one (.var hP)) fun _ => rfl)) fun _ => rfl)) fun _ => rfl
end Pc
set_option Elab.async false
set_option linter.all false
set_option maxHeartbeats 1000000
set_option maxRecDepth 100000
/-! Tm1: numbers, pairs, tables as texts (plain) -/
namespace Tx
open PySem PySem.Spec L2 Dn Pn TL
def numS (n : Nat) : Str := Str.ofString (toString ((n : Nat) : Int))
theorem tl_numS (n : Nat) : tl (numS n) = numL n := tl_num n
def wordS (p : Nat × Nat) : Str := numS p.1 ++ Str.ofString "." ++ numS p.2
def wordL (p : Nat × Nat) : List Nat := numL p.1 ++ (46 :: numL p.2)
theorem tl_dot : tl (Str.ofString ".") = [46] := by rw [tl_ofString]; rfl
theorem tl_sp : tl (Str.ofString " ") = [32] := by rw [tl_ofString]; rfl
theorem tl_sl : tl (Str.ofString " / ") = [32, 47, 32] := by rw [tl_ofString]; rfl
theorem tl_wordS (p : Nat × Nat) : tl (wordS p) = wordL p := by
  unfold wordS wordL
  rw [tl_append, tl_append, tl_numS, tl_numS, tl_dot]
  simp
def rowS (r : List (Nat × Nat)) : Str := Txt.join (Str.ofString " ") (r.map wordS)
def gateS (g : Gate) : Str := Txt.join (Str.ofString " / ") (g.map rowS)
def rowL (r : List (Nat × Nat)) : List Nat := joinL [32] (r.map wordL)
def gateL (g : Gate) : List Nat := joinL [32, 47, 32] (g.map rowL)
theorem tl_rowS (r : List (Nat × Nat)) : tl (rowS r) = rowL r := by
  unfold rowS rowL
  rw [join_eq, tl_join, tl_sp, List.map_map]
  congr 1
  exact List.map_congr_left fun p _ => tl_wordS p
theorem tl_gateS (g : Gate) : tl (gateS g) = gateL g := by
  unfold gateS gateL
  rw [join_eq, tl_join, tl_sl, List.map_map]
  congr 1
  exact List.map_congr_left fun p _ => tl_rowS p
/-- which signs a word, a row, a table has -/
theorem mem_joinL {S : List Nat} {c : Nat} : ∀ {ps : List (List Nat)}, c ∈ joinL S ps → c ∈ S ∨ ∃ p ∈ ps, c ∈ p
  | [], h => by cases h
  | [p], h => .inr ⟨p, List.mem_singleton.mpr rfl, h⟩
  | p :: q :: r, h => by
    have h' : c ∈ p ++ (S ++ joinL S (q :: r)) := h
    rcases List.mem_append.mp h' with h' | h'
    · exact .inr ⟨p, List.mem_cons_self .., h'⟩
    · rcases List.mem_append.mp h' with h' | h'
      · exact .inl h'
      · rcases mem_joinL h' with h' | ⟨z, hz, hc⟩
        · exact .inl h'
        · exact .inr ⟨z, List.mem_cons_of_mem _ hz, hc⟩
theorem wordL_mem {p : Nat × Nat} {c : Nat} (h : c ∈ wordL p) : c = 46 ∨ (48 ≤ c ∧ c ≤ 57) := by
  unfold wordL at h
  rcases List.mem_append.mp h with h | h
  · exact .inr (numL_digits _ c h)
  · rcases List.mem_cons.mp h with h | h
    · exact .inl h
    · exact .inr (numL_digits _ c h)
theorem rowL_mem {r : List (Nat × Nat)} {c : Nat} (h : c ∈ rowL r) : c = 32 ∨ c = 46 ∨ (48 ≤ c ∧ c ≤ 57) := by
  rcases mem_joinL h with h | ⟨z, hz, hc⟩
  · exact .inl (List.mem_singleton.mp h)
  · obtain ⟨p, _, rfl⟩ := List.mem_map.mp hz
    exact .inr (wordL_mem hc)
/-! ### splitting -/
/-- " / " between parts without a stroke -/
theorem spl_stroke : ∀ {parts : List (List Nat)}, parts ≠ [] → (∀ p ∈ parts, 47 ∉ p) → spl [32, 47, 32] 0 [] (joinL [32, 47, 32] parts) = parts := by
  have key : ∀ (p rest : List Nat), 47 ∉ p → ∀ i, i < p.length → pre [32, 47, 32] ((p ++ ([32, 47, 32] ++ rest)).drop i) = false := fun p rest h i hi => by
    unfold pre
    rw [beq_eq_false_iff_ne]
    intro e
    have e1 := congrArg (fun l => l[1]?) e
    have e2 : (p ++ ([32, 47, 32] ++ rest))[i + 1]? = some 47 := by
      simpa [List.getElem?_take, List.getElem?_drop] using e1
    by_cases hi2 : i + 1 < p.length
    · rw [List.getElem?_append_left hi2] at e2
      exact h (List.mem_of_getElem? e2)
    · rw [List.getElem?_append_right (by omega), show i + 1 - p.length = 0 by omega] at e2
      simp at e2
  have last : ∀ (p : List Nat), 47 ∉ p → ∀ i, i < p.length → pre [32, 47, 32] (p.drop i) = false := fun p h i hi => by
    unfold pre
    rw [beq_eq_false_iff_ne]
    intro e
    have e1 := congrArg (fun l => l[1]?) e
    have e2 : p[i + 1]? = some 47 := by
      simpa [List.getElem?_take, List.getElem?_drop] using e1
    exact h (List.mem_of_getElem? e2)
  intro parts
  induction parts with
  | nil => exact fun h _ => absurd rfl h
  | cons p r ih =>
    intro _ hp
    cases r with
    | nil =>
      show spl [32, 47, 32] 0 [] p = [p]
      rw [spl_last (last p (hp p (List.mem_cons_self ..))), List.nil_append]
    | cons q r =>
      show spl [32, 47, 32] 0 [] (p ++ ([32, 47, 32] ++ joinL [32, 47, 32] (q :: r))) = _
      rw [spl_part (by simp) (key p _ (hp p (List.mem_cons_self ..))), List.nil_append, ih (by simp) fun z hz => hp z (List.mem_cons_of_mem _ hz)]
theorem kind_s {y : Str} {l : List Nat} (e : tl y = l) (h : l.all (· < 256) = true) : ¬ Builtin.Str.strKind x < Builtin.Str.strKind y := by
  refine kind_ok ?_
  rw [← Array.all_toList]
  have e' : y.cps.toList = l := e
  rw [e']
  exact h
theorem split_gate {g : Gate} (h : g ≠ []) : Txt.split (gateS g) (Str.ofString " / ") = g.map rowS := by
  refine map_tl_inj ?_
  rw [split_spl _ _ (by rw [tl_sl]; simp) (kind_s tl_sl rfl), tl_gateS, tl_sl]
  unfold gateL
  rw [spl_stroke (by simpa using h) (fun p hp => by
    obtain ⟨r, _, rfl⟩ := List.mem_map.mp hp
    intro hm
    have := rowL_mem hm
    omega), List.map_map]
  exact (List.map_congr_left fun p _ => tl_rowS p).symm
theorem split_row {r : List (Nat × Nat)} (h : r ≠ []) : Txt.split (rowS r) (Str.ofString " ") = r.map wordS := by
  unfold rowS
  refine split_join (s := 32) (S := []) tl_sp ?_ (by simpa using h) fun p hp => ?_
  · rw [← Array.all_toList]
    have e : (Str.ofString " ").cps.toList = [32] := tl_sp
    rw [e]; rfl
  · obtain ⟨q, _, rfl⟩ := List.mem_map.mp hp
    rw [tl_wordS]
    intro hm
    have := wordL_mem hm
    omega
theorem split_word (p : Nat × Nat) : Txt.split (wordS p) (Str.ofString ".") = [numS p.1, numS p.2] := by
  refine map_tl_inj ?_
  rw [split_spl _ _ (by rw [tl_dot]; simp) (kind_s tl_dot rfl), tl_wordS, tl_dot]
  show spl [46] 0 [] (numL p.1 ++ ([46] ++ numL p.2)) = [tl (numS p.1), tl (numS p.2)]
  rw [tl_numS, tl_numS, spl_part1 (numL_free (.inl (by decide))), spl_last1 (numL_free (.inl (by decide))), List.nil_append, List.nil_append]
/-! ### reading -/
def FIG : Str := "0123456789"
theorem fig_mem (c : Nat) : (decide (c ∈ FIG.cps.toList)) = (decide (48 ≤ c) && decide (c ≤ 57)) := by
  have e : FIG.cps.toList = [48, 49, 50, 51, 52, 53, 54, 55, 56, 57] := by
    have : tl (Str.ofString "0123456789") = _ := tl_ofString _
    exact this
  rw [e, Bool.eq_iff_iff]
  simp only [List.mem_cons, List.not_mem_nil, or_false, Bool.and_eq_true, decide_eq_true_eq]
  omega
def digs (l : List Nat) : Bool := l.all fun c => decide (48 ≤ c) && decide (c ≤ 57)
theorem digs_ok {l : List Nat} : digs l = true ↔ NumText.AllDigits l := by
  unfold digs NumText.AllDigits
  simp
/-- a number's word -/
def numOf (w : Str) : Option Nat := if (decide (0 < (tl w).length) && decide ((tl w).length ≤ 6)) && (digs (tl w) && !(decide ((tl w).head? = some 48) && !decide (tl w = [48]))) then some (NumText.digitsVal (tl w)) else none
def pairOf (w : Str) : Option (Nat × Nat) := match (Txt.split w (Str.ofString ".")).map numOf with
  | [some a, some b] => some (a, b)
  | _ => none
def allSome {α : Type} : List (Option α) → Option (List α)
  | [] => some []
  | some a :: r => (allSome r).map (a :: ·)
  | none :: _ => none
def rowOf (w : Str) : Option (List (Nat × Nat)) := allSome ((Txt.split w (Str.ofString " ")).map pairOf)
def tabOf (t : Str) : Option Gate := allSome ((Txt.split t (Str.ofString " / ")).map rowOf)
theorem allSome_map {α β : Type} {f : α → Option β} {g : α → β} : ∀ {l : List α}, (∀ a ∈ l, f a = some (g a)) → allSome (l.map f) = some (l.map g)
  | [], _ => rfl
  | a :: l, h => by
    rw [List.map_cons, h a (List.mem_cons_self ..)]
    show (allSome (l.map f)).map _ = _
    rw [allSome_map fun b hb => h b (List.mem_cons_of_mem _ hb)]
    rfl
theorem numL_head {n : Nat} (h : 0 < n) : (numL n).head? ≠ some 48 := by
  induction n using Nat.strongRecOn with
  | _ n ih =>
    by_cases h10 : n < 10
    · rw [numL_lt h10]
      simp
      omega
    · have e : (numL n).head? = (numL (n / 10)).head? := by
        rw [numL_step (by omega)]
        cases hq : numL (n / 10) with
        | nil => exact absurd hq (numL_ne _)
        | cons a b => rfl
      rw [e]
      exact ih (n / 10) (by omega) (by omega)
theorem numOf_num {n : Nat} (h : n < 1000000) : numOf (numS n) = some n := by
  unfold numOf
  rw [tl_numS, numL_val]
  have h1 : 0 < (numL n).length := List.length_pos_iff.mpr (numL_ne n)
  have h2 : (numL n).length ≤ 6 := numL_len (by decide) h
  have h3 : digs (numL n) = true := digs_ok.mpr (numL_digits n)
  have h4 : (decide ((numL n).head? = some 48) && !decide (numL n = [48])) = false := by
    by_cases h0 : n = 0
    · subst h0
      rw [numL_lt (by decide)]
      decide
    · rw [decide_eq_false (numL_head (by omega))]
      rfl
  rw [decide_eq_true h1, decide_eq_true h2, h3, h4]
  rfl
theorem pairOf_word {p : Nat × Nat} (h1 : p.1 < 1000000) (h2 : p.2 < 1000000) : pairOf (wordS p) = some p := by
  unfold pairOf
  rw [split_word]
  show (match [numOf (numS p.1), numOf (numS p.2)] with
    | [some a, some b] => some (a, b)
    | _ => none) = _
  rw [numOf_num h1, numOf_num h2]
theorem rowOf_row {r : List (Nat × Nat)} (h : r ≠ []) (hb : ∀ p ∈ r, p.1 < 1000000 ∧ p.2 < 1000000) : rowOf (rowS r) = some r := by
  unfold rowOf
  rw [split_row h, List.map_map]
  have := allSome_map (f := fun p => pairOf (wordS p)) (g := fun p => p) (l := r) fun p hp => pairOf_word (hb p hp).1 (hb p hp).2
  rw [List.map_id'] at this
  exact this
theorem tabOf_gate {g : Gate} (h : g ≠ []) (hr : ∀ r ∈ g, r ≠ [] ∧ ∀ p ∈ r, p.1 < 1000000 ∧ p.2 < 1000000) : tabOf (gateS g) = some g := by
  unfold tabOf
  rw [split_gate h, List.map_map]
  have := allSome_map (f := fun r => rowOf (rowS r)) (g := fun r => r) (l := g) fun r hr' => rowOf_row (hr r hr').1 (hr r hr').2
  rw [List.map_id'] at this
  exact this
/-! ### signs -/
theorem spl_mem {S : List Nat} : ∀ (l acc : List Nat) (k : Nat) {p : List Nat} {c : Nat}, p ∈ spl S k acc l → c ∈ p → c ∈ acc ∨ c ∈ l
  | [], acc, k, p, c, hp, hc => by
    rw [spl_nil, List.mem_singleton] at hp
    subst hp
    exact .inl hc
  | d :: l, acc, 0, p, c, hp, hc => by
    cases hpre : pre S (d :: l) with
    | true =>
      rw [spl_hit hpre] at hp
      rcases List.mem_cons.mp hp with rfl | hp
      · exact .inl hc
      · rcases spl_mem l [] _ hp hc with h | h
        · cases h
        · exact .inr (List.mem_cons_of_mem _ h)
    | false =>
      rw [spl_miss hpre] at hp
      rcases spl_mem l _ _ hp hc with h | h
      · rcases List.mem_append.mp h with h | h
        · exact .inl h
        · rw [List.mem_singleton] at h
          subst h
          exact .inr (List.mem_cons_self ..)
      · exact .inr (List.mem_cons_of_mem _ h)
  | d :: l, acc, k + 1, p, c, hp, hc => by
    rw [spl_pass, List.drop_succ_cons, ← spl_pass] at hp
    rcases spl_mem l _ _ hp hc with h | h
    · exact .inl h
    · exact .inr (List.mem_cons_of_mem _ h)
theorem split_mem {x y z : Str} (hy : tl y ≠ []) (hk : ¬ Builtin.Str.strKind x < Builtin.Str.strKind y) (hz : z ∈ Txt.split x y) : ∀ c ∈ tl z, c ∈ tl x := fun c hc => by
  have h : tl z ∈ (Txt.split x y).map tl := List.mem_map.mpr ⟨z, hz, rfl⟩
  rw [split_spl x y hy hk] at h
  rcases spl_mem _ _ _ h hc with h | h
  · cases h
  · exact h
theorem spl_len {S : List Nat} : ∀ (l acc : List Nat) (k : Nat) {p : List Nat}, p ∈ spl S k acc l → p.length ≤ acc.length + l.length
  | [], acc, k, p, hp => by
    rw [spl_nil, List.mem_singleton] at hp
    subst hp
    simp
  | d :: l, acc, 0, p, hp => by
    cases hpre : pre S (d :: l) with
    | true =>
      rw [spl_hit hpre] at hp
      rcases List.mem_cons.mp hp with rfl | hp
      · simp
      · have := spl_len l [] _ hp
        simp at this ⊢
        omega
    | false =>
      rw [spl_miss hpre] at hp
      have := spl_len l _ _ hp
      simp at this ⊢
      omega
  | d :: l, acc, k + 1, p, hp => by
    rw [spl_pass, List.drop_succ_cons, ← spl_pass] at hp
    have := spl_len l _ _ hp
    simp at this ⊢
    omega
theorem split_len {x y z : Str} (hy : tl y ≠ []) (hk : ¬ Builtin.Str.strKind x < Builtin.Str.strKind y) (hz : z ∈ Txt.split x y) : z.length ≤ x.length := by
  have h : tl z ∈ (Txt.split x y).map tl := List.mem_map.mpr ⟨z, hz, rfl⟩
  rw [split_spl x y hy hk] at h
  have := spl_len _ _ _ h
  rw [len_tl, len_tl]
  simpa using this
theorem spl_ne {S : List Nat} (l acc : List Nat) (k : Nat) : spl S k acc l ≠ [] := by
  induction l generalizing acc k with
  | nil => rw [spl_nil]; simp
  | cons d l ih =>
    cases k with
    | zero =>
      cases hpre : pre S (d :: l) with
      | true => rw [spl_hit hpre]; simp
      | false => rw [spl_miss hpre]; exact ih _ _
    | succ k => rw [spl_pass, List.drop_succ_cons, ← spl_pass]; exact ih _ _
theorem spl_count {S : List Nat} : ∀ (l acc : List Nat) (k : Nat), (spl S k acc l).length ≤ l.length + 1
  | [], acc, k => by rw [spl_nil]; simp
  | d :: l, acc, 0 => by
    cases hpre : pre S (d :: l) with
    | true =>
      rw [spl_hit hpre]
      have := spl_count (S := S) l [] (S.length - 1)
      simp
      omega
    | false =>
      rw [spl_miss hpre]
      have := spl_count (S := S) l (acc ++ [d]) 0
      simp
      omega
  | d :: l, acc, k + 1 => by
    rw [spl_pass, List.drop_succ_cons, ← spl_pass]
    have := spl_count (S := S) l acc k
    simp
    omega
theorem split_count {x y : Str} (hy : tl y ≠ []) (hk : ¬ Builtin.Str.strKind x < Builtin.Str.strKind y) : (Txt.split x y).length ≤ x.length + 1 := by
  have h := congrArg List.length (split_spl x y hy hk)
  rw [List.length_map] at h
  rw [h, len_tl]
  exact spl_count _ _ _
theorem split_ne {x y : Str} (hy : tl y ≠ []) (hk : ¬ Builtin.Str.strKind x < Builtin.Str.strKind y) : Txt.split x y ≠ [] := fun e => by
  have h := split_spl x y hy hk
  rw [e] at h
  exact spl_ne _ _ _ h.symm
end Tx
set_option Elab.async false
set_option linter.all false
set_option maxHeartbeats 1000000
set_option maxRecDepth 100000
/-! Qt1: texts by slots -/
namespace Qn
open PySem PySem.Spec L2 Dn Pn Tx
section
variable {f : Fr} {P P' P0 P1 P2 P3 P4 : PE} {E : Dn.Env} {S : Store} {i j n k s m : Nat} {o : Option Nat} {c c' : Cell} {x y z v w : D} {ma mb mc md : DE} {da : DA} {xs ys vs : List D} {g : DG} {a b : Str}
theorem recvS (S : Store) : recv "str" (.str a) S = true := rfl
theorem ExN.split (ha : Ex P ma (.str a) P1) (hb : Ex P1 mb (.str b) P2) (hz : (b.length == 0) = false) (hl : a.length + 2 ≤ sizeLine) : ExN P (dMeth "str" mSplit ma (aCons mb aNil)) (.lst ((Txt.split a b).map D.str)) P2 := fun f E S t => by
  obtain ⟨S1, e1, t1⟩ := ha f E S t
  obtain ⟨S2, e2, t2⟩ := hb f E S1 t1
  obtain ⟨q1, q2⟩ := t2.newAt (g := [.lst ((Txt.split a b).map D.str)]) (n := S2.length) (c := .lst ((Txt.split a b).map D.str)) (Nat.le_refl _) (by simp)
  refine ⟨_, _, ?_, q1, q2⟩
  rw [e_meth, e1, Dn.R.bind_ok, recvS, if_pos rfl, e_acons, e2, Dn.R.bind_ok, e_anil, Dn.R.bind_ok, Dn.R.bind_ok]
  unfold mSplit
  dsimp only
  rw [if_pos ⟨hz, hl⟩]
  rfl
theorem log2_small {n : Nat} (h : n ≤ 1000000) : ((n : Nat) : Int).natAbs.log2 < 1920 := by
  rw [Int.natAbs_natCast]
  rcases Nat.eq_zero_or_pos n with h0 | h0
  · subst h0; decide
  · rw [Nat.log2_lt (by omega)]
    exact Nat.lt_of_le_of_lt h (Nat.lt_of_lt_of_le (by decide : 1000000 < 2 ^ 20) (Nat.pow_le_pow_right (by decide) (by decide)))
theorem t_str (h : n ≤ 1000000) : ∀ S, bStr [.int (n : Nat)] S = .ok (.str (numS n)) S := fun S => by
  unfold bStr
  dsimp only
  rw [if_pos (log2_small h)]
  rfl
theorem Ex.str (h : Ex P ma (.int (n : Nat)) P1) (hn : n ≤ 1000000) : Ex P (dCall bStr (aCons ma aNil)) (.str (numS n)) P1 := .call (.one h) (t_str hn)
/-- f"{..}{..}{..}" -/
def JP (P : PE) (ms : List DE) (acc out : Str) (P' : PE) : Prop := ∀ f E S, Sd f P E S → ∃ S', dJs ms acc E S = .ok out S' ∧ Sd f P' E S'
theorem JP.nil : JP P [] a a P := fun f E S t => ⟨S, rfl, t⟩
theorem JP.cons {ms : List DE} {acc out : Str} (h : Ex P ma (.str b) P1) (hl : (acc ++ b).length ≤ sizeLine) (h' : JP P1 ms (acc ++ b) out P') : JP P (ma :: ms) acc out P' := fun f E S t => by
  obtain ⟨S1, e1, t1⟩ := h f E S t
  obtain ⟨S2, e2, t2⟩ := h' f E S1 t1
  refine ⟨S2, ?_, t2⟩
  show (ma E S).bind _ = _
  rw [e1, Dn.R.bind_ok]
  dsimp only
  rw [if_pos hl, e2]
theorem Ex.lenS (h : Ex P ma (.str a) P1) (hl : a.length ≤ sizeLine) : Ex P (dCall bLen (aCons ma aNil)) (.int (a.length : Nat)) P1 := .call (.one h) fun S => by
  unfold bLen
  dsimp only
  rw [if_pos hl]
theorem str_py {rf : Nat → Option PyData} : pyW rf (.str a) = some (.str a) := by simp [pyW]
theorem t_eqS2 (ha : Sok a) (hb : Sok b) : ∀ S, vEq (.str a) (.str b) S = .ok (.bl (decide (a = b))) S := fun S => by
  rw [vEq_of (p := .str a) (q := .str b) str_py str_py (ha.ok.shaped (by decide)) (hb.ok.shaped (by decide))]
  congr 2
theorem t_neS2 (ha : Sok a) (hb : Sok b) : ∀ S, vNe (.str a) (.str b) S = .ok (.bl (!decide (a = b))) S := fun S => by
  rw [vNe_of (p := .str a) (q := .str b) str_py str_py (ha.ok.shaped (by decide)) (hb.ok.shaped (by decide))]
  congr 3
end
end Qn
set_option Elab.async false
set_option linter.all false
set_option maxHeartbeats 1000000
set_option maxRecDepth 100000
/-! Pt1: number_of, pair_of, table_of: of any text -/
namespace Pt
open PySem PySem.Spec L2 Dn Pn Qn Tx TL
def optI : Option Nat → D
  | none => .non
  | some n => .int (n : Nat)
section
variable {P P' P1 P2 : Qn.PE} {w t : Str} {ma mb : DE}
theorem len_sl {n : Nat} (h : n ≤ 900000) : n + 2 ≤ sizeLine := sl_ge _ (by omega)
def nP (w : Str) : Qn.PE := [.d (.str w), .any]
/-! ### pairs -/
theorem kind_dot : ¬ Builtin.Str.strKind w < Builtin.Str.strKind (Str.ofString ".") := kind_s tl_dot rfl
theorem kind_sp : ¬ Builtin.Str.strKind w < Builtin.Str.strKind (Str.ofString " ") := kind_s tl_sp rfl
theorem kind_sl : ¬ Builtin.Str.strKind w < Builtin.Str.strKind (Str.ofString " / ") := kind_s tl_sl rfl
theorem sok_part {y z : Str} (hs : Sok w) (hy : tl y ≠ []) (hk : ¬ Builtin.Str.strKind w < Builtin.Str.strKind y) (hz : z ∈ Txt.split w y) : Sok z := fun c hc => hs c (split_mem hy hk hz c hc)
def optIP : Option Nat → PyData
  | none => .none
  | some n => .int (n : Nat)
theorem optI_py {rf : Nat → Option PyData} (n : Option Nat) : pyW rf (optI n) = some (optIP n) := by cases n <;> rfl
theorem optI_ok (n : Option Nat) : Ok 0 (optIP n) := by
  cases n with
  | none => exact .none
  | some n => exact .int _
theorem any_none (l : List (Option Nat)) : anyEq (l.map optIP) .none = l.any (·.isNone) := by
  unfold anyEq
  rw [List.any_map]
  congr 1
  exact funext fun n => by cases n <;> rfl
theorem t_inNone {l : List (Option Nat)} : ∀ S n, S[n]? = some (.lst (l.map optI)) → vIn false .non (.ref n) S = .ok (.bl (l.any (·.isNone))) S := fun S n e => by
  unfold vIn
  dsimp only
  rw [e]
  dsimp only
  unfold vInSeq
  rw [show toPy S .non = some .none from rfl, pyWs_map (h := optIP) optI_py]
  dsimp only
  rw [(Ok.none).shaped (by decide), ((Ok.lst (k := 0) fun p hp => by
    obtain ⟨i, _, rfl⟩ := List.mem_map.mp hp
    exact optI_ok i).shaped (by decide)), any_none]
  rfl
end
end Pt
set_option Elab.async false
set_option linter.all false
set_option maxHeartbeats 1000000
set_option maxRecDepth 100000
/-! Qn8: exceptions by what is known of the slots -/
namespace Qn
open PySem PySem.Spec L2 Dn Pn Dx
section
variable [KF]
/-- an expression that raises -/
def XE (P : PE) (m : DE) (x : Xc) (P' : PE) : Prop := ∀ f E S, Sd f P E S → ∃ S', m E S = .exc x S' ∧ Sd f P' E S'
/-- what is pure -/
def Pu (P : PE) (m : DE) (v : D) : Prop := ∀ f E S, Sd f P E S → m E S = .ok v S
def PuA (P : PE) (m : DA) (vs : List D) : Prop := ∀ f E S, Sd f P E S → m E S = .ok vs S
def PuB (P : PE) (m : DB) (b : Bool) : Prop := ∀ f E S, Sd f P E S → m E S = .ok b S
def QU (P : PE) (m : DS) (P' : PE) : Prop := ∀ f E S, Sd f P E S → ∃ E', m E S = .nx E' S ∧ Sd f P' E' S
end
section
variable [KF] {f : Fr} {P P' P1 P2 : PE} {E E' : Dn.Env} {S S' : Store} {i k n a : Nat} {x : Xc} {v w z : D} {vs : List D} {m ma mb : DE} {da : DA} {nb : DB} {s s' : DS} {o : Out} {b b' : Bool} {ct : List ClsD} {hs : List (Nat × Nat × DS)}
theorem Pu.ex (h : Pu P m v) : Ex P m v P := fun f E S t => ⟨S, h f E S t, t⟩
theorem Pu.con : Pu P (dC v) v := fun f E S t => rfl
theorem Pu.var (h : P[i]? = some (.d v)) : Pu P (dVar i) v := fun f E S t => by unfold dVar; rw [t.data h]
theorem PuA.nil : PuA P aNil [] := fun f E S t => rfl
theorem PuA.cons (h : Pu P m v) (h' : PuA P da vs) : PuA P (aCons m da) (v :: vs) := fun f E S t => by rw [e_acons, h f E S t, Dn.R.bind_ok, h' f E S t, Dn.R.bind_ok]
theorem Pu.call {F : DF} (h : PuA P da vs) (hF : ∀ S, F vs S = .ok v S) : Pu P (dCall F da) v := fun f E S t => by rw [e_call, h f E S t, Dn.R.bind_ok, hF]
theorem Pu.tup (h : PuA P da vs) (hl : vs.length ≤ sizeLine) : Pu P (dTup da) (.tup vs) := fun f E S t => by
  rw [e_tup, h f E S t, Dn.R.bind_ok]
  unfold mkTup
  rw [if_pos hl]
theorem Pu.bin {t : D → D → Store → R D} (ha : Pu P ma v) (hb : Pu P mb w) (ht : ∀ S, t v w S = .ok z S) : Pu P (dBin t ma mb) z := fun f E S q => by rw [e_Bin, ha f E S q, Dn.R.bind_ok, hb f E S q, Dn.R.bind_ok, ht]
theorem Pu.andT (ha : Pu P ma (.bl true)) (hb : Pu P mb v) : Pu P (dAnd ma mb) v := fun f E S t => by
  unfold dAnd
  rw [ha f E S t, Dn.R.bind_ok]
  exact hb f E S t
theorem Pu.andF (ha : Pu P ma (.bl false)) : Pu P (dAnd ma mb) (.bl false) := fun f E S t => by
  unfold dAnd
  rw [ha f E S t, Dn.R.bind_ok]
theorem Pu.not (ha : Pu P ma (.bl b)) : Pu P (dNot ma) (.bl !b) := fun f E S t => by
  unfold dNot
  rw [ha f E S t, Dn.R.bind_ok]
theorem PuB.test (h : Pu P m (.bl b)) : PuB P (dTest m) b := fun f E S t => by rw [e_Test, h f E S t, Dn.R.bind_ok]
theorem PuB.not (h : PuB P nb b) : PuB P (dTNot nb) (!b) := fun f E S t => by unfold dTNot; rw [h f E S t, Dn.R.bind_ok]
theorem PuB.andT {nb' : DB} (h : PuB P nb true) (h' : PuB P nb' b) : PuB P (dTAnd nb nb') b := fun f E S t => by
  unfold dTAnd
  rw [h f E S t, Dn.R.bind_ok, if_pos rfl, h' f E S t]
theorem PuB.andF {nb' : DB} (h : PuB P nb false) : PuB P (dTAnd nb nb') false := fun f E S t => by
  unfold dTAnd
  rw [h f E S t, Dn.R.bind_ok, if_neg Bool.false_ne_true]
theorem QU.asg (h : Pu P m v) : QU P (dAsg m (gNm i)) (P.set i (.d v)) := fun f E S t => ⟨E.set i (some v), by rw [e_asg, h f E S t, R.toS_ok]; rfl, t.setD i v⟩
theorem QU.next : QU P dNext P := fun f E S t => ⟨E, rfl, t⟩
theorem QU.seq (h : QU P s P1) (h' : QU P1 s' P') : QU P (dSeq s s') P' := fun f E S t => by
  obtain ⟨E1, e1, t1⟩ := h f E S t
  obtain ⟨E2, e2, t2⟩ := h' f E1 S t1
  exact ⟨E2, by rw [e_seq, e1]; exact e2, t2⟩
theorem QU.ifT (h : PuB P nb true) (h' : QU P s P') : QU P (dIf nb s s') P' := fun f E S t => by
  obtain ⟨E1, e1, t1⟩ := h' f E S t
  exact ⟨E1, by rw [e_if, h f E S t, R.toS_ok, if_pos rfl, e1], t1⟩
theorem QU.ifF (h : PuB P nb false) (h' : QU P s' P') : QU P (dIf nb s s') P' := fun f E S t => by
  obtain ⟨E1, e1, t1⟩ := h' f E S t
  exact ⟨E1, by rw [e_if, h f E S t, R.toS_ok, if_neg Bool.false_ne_true, e1], t1⟩
/-! clauses -/
/-! raising -/
theorem XE.call {F : DF} (h : ExA P da vs P') (hF : ∀ S, F vs S = .exc x S) : XE P (dCall F da) x P' := fun f E S t => by
  obtain ⟨S1, e1, t1⟩ := h f E S t
  exact ⟨S1, by rw [e_call, e1, Dn.R.bind_ok, hF], t1⟩
end
end Qn
set_option Elab.async false
set_option linter.all false
set_option maxHeartbeats 1000000
set_option maxRecDepth 100000
/-! Px1: what several laws with exceptions need -/
namespace Px
open PySem PySem.Spec L2 Dn Pn Qn Qm Pc Dx
section
variable {f : Fr} {P P' P1 P2 : Qn.PE} {S : Store} {i k n n1 n2 s m c : Nat} {g : Gate} {o : Option Nat} {v x y : D} {xs ys vs : List D} {ma mb : DE} {da : DA} {cc : Cell}
/-! ### cells known by their numbers -/
theorem ExN.zipT (h1 : Ex P ma (.tup xs) P1) (h2 : Ex P1 mb (.tup ys) P2) (hl : (zipD xs ys).length ≤ sizeLine) : ExN P (dListZip (aCons ma (aCons mb aNil))) (.lst (zipD xs ys)) P2 := fun f E S t => by
  obtain ⟨S1, e1, t1⟩ := h1 f E S t
  obtain ⟨S2, e2, t2⟩ := h2 f E S1 t1
  obtain ⟨t3, hn⟩ := t2.alloc (.lst (zipD xs ys))
  refine ⟨S2.length, S2 ++ [.lst (zipD xs ys)], ?_, hn, t3⟩
  unfold dListZip
  rw [e_acons, e1, Dn.R.bind_ok, e_acons, e2, Dn.R.bind_ok, e_anil, Dn.R.bind_ok, Dn.R.bind_ok, Dn.R.bind_ok]
  dsimp only
  rw [if_pos (by rfl)]
  show mkLst (zipD xs ys) S2 = _
  rw [mkLst_ok hl]
/-! ### alike -/
def aP (p0 p1 : PV) (l : List D) (p3 p4 : PV) : Qn.PE := [p0, p1, .c none (.lst l), p3, p4]
variable {p0 p1 p3 p4 : PV}
theorem t_neB {b : Bool} : ∀ S, vNe (.bl b) (.bl b) S = .ok (.bl false) S := fun S => op_neB (A := []) S List.nil_prefix
theorem tt2 : Ex P (dTup (aCons (dC (.ty "tuple")) (aCons (dC (.ty "list")) aNil))) (.tup [.ty "tuple", .ty "list"]) P := .tup2 (.con _) (.con _)
end
end Px
set_option Elab.async false
set_option linter.all false
set_option maxHeartbeats 1000000
set_option maxRecDepth 100000
/-! Px2: passes refused, what is due of them, the table led back, repr -/
namespace Px
open PySem PySem.Spec L2 Dn Pn Qn Qm Pc Dx
section
variable {f : Fr} {P P' P1 P2 : Qn.PE} {S : Store} {i k n s m c c' : Nat} {g : Gate} {o : Option Nat} {v x y : D} {xs ys vs : List D} {ma mb : DE} {da : DA} {cc : Cell} {r' : DS}
/-! ### len(gate[0]), len(gate) -/
theorem len0 (h : Shape s m g) (ha : Ex P ma (gateD g) P1) : Ex P (dCall bLen (aCons (dBin vIx ma (dC (.int 0))) aNil)) (.int (s : Nat)) P1 := by
  have e : rowD (g.getD 0 []) = .tup ((g.getD 0 []).map pairD) := rfl
  have z := Ex.len (P := P) (m := dBin vIx ma (dC (.int 0))) (xs := (g.getD 0 []).map pairD) (P' := P1) (.bin ha (.con (.int ((0 : Nat) : Int))) (t_row (by rw [h.len]; exact h.m0)))
  rw [List.length_map, rows_len h h.m0] at z
  exact z
theorem lenG (h : Shape s m g) (ha : Ex P ma (gateD g) P1) : Ex P (dCall bLen (aCons ma aNil)) (.int (m : Nat)) P1 := by
  have z := Ex.len (P := P) (m := ma) (xs := g.map rowD) (P' := P1) ha
  rw [List.length_map, h.len] at z
  exact z
/-! ### what is due -/
def dueD : DS := (dSeq (dIf (dTNot (dTest (dChain vLe vLt (dC (.int 0)) (dVar 1) (dCall bLen (aCons (dBin vIx (dVar 0) (dC (.int 0))) aNil))))) (dRet (dTup (aCons (dC (.str "side")) (aCons (dVar 1) (aCons (dC (.bl true)) aNil))))) dNext) (dSeq (dIf (dTNot (dTest (dChain vLe vLt (dC (.int 0)) (dVar 2) (dCall bLen (aCons (dVar 0) aNil))))) (dRet (dTup (aCons (dC (.str "mark")) (aCons (dVar 2) (aCons (dC (.bl true)) aNil))))) dNext) (dRet (dBin vIx (dBin vIx (dVar 0) (dVar 2)) (dVar 1)))))
noncomputable def FDueP : DF := trimF (dDef 3 3 dueD)
/-- what a pass comes to -/
def pD (s m : Nat) (g : Gate) (i k : Nat) : D := if i < s then (if k < m then pairD (FF g k i) else .tup [.str "mark", .int (k : Nat), .bl true]) else .tup [.str "side", .int (i : Nat), .bl true]
theorem tup3 {a b c : D} {mc : DE} (ha : Ex P ma a P) (hb : Ex P mb b P) (hc : Ex P mc c P) : Ex P (dTup (aCons ma (aCons mb (aCons mc aNil)))) (.tup [a, b, c]) P := Ex.tup (.cons ha (.two hb hc)) (show 3 ≤ sizeLine by decide)
theorem due_ok (h : Shape s m g) : OpF [] FDueP [gateD g, .int (i : Nat), .int (k : Nat)] (pD s m g i k) := by
  unfold pD
  have e1 := ex_range (P := [.d (gateD g), .d (.int (i : Nat)), .d (.int (k : Nat))]) (ma := dVar 1) (.var rfl) (len0 h (.var (i := 0) rfl))
  have e2 := ex_range (P := [.d (gateD g), .d (.int (i : Nat)), .d (.int (k : Nat))]) (ma := dVar 2) (.var rfl) (lenG h (.var (i := 0) rfl))
  by_cases h1 : i < s
  · rw [if_pos h1]
    rw [decide_eq_true h1] at e1
    by_cases h2 : k < m
    · rw [if_pos h2]
      rw [decide_eq_true h2] at e2
      exact fn_data rfl (QS.seq (.ifF e1 .next) (QS.seq (.ifF e2 .next) (.ret (.cell h h2 h1 (.var rfl) (.var rfl) (.var rfl))))) (by simp)
    · rw [if_neg h2]
      rw [decide_eq_false h2] at e2
      exact fn_data rfl (QS.seq (.ifF e1 .next) (QS.seqL (.ifT e2 (.ret (tup3 (.con _) (.var rfl) (.con _)))))) rfl
  · rw [if_neg h1]
    rw [decide_eq_false h1] at e1
    exact fn_data rfl (QS.seqL (.ifT e1 (.ret (tup3 (.con _) (.var rfl) (.con _))))) rfl
/-! ### repr -/
/-! ### turned twice -/
end
end Px
set_option Elab.async false
set_option linter.all false
set_option maxRecDepth 100000
set_option maxHeartbeats 4000000
namespace K03
open PySem PySem.Spec L2 Dn
def c_GateError : Dx.ClsD := ⟨"GateError", [0], false⟩
def c_NoGate : Dx.ClsD := ⟨"NoGate", [1, 0], false⟩
def c_NoSide : Dx.ClsD := ⟨"NoSide", [2], true⟩
def c_NoMark : Dx.ClsD := ⟨"NoMark", [3], true⟩
def c_NoDoor : Dx.ClsD := ⟨"NoDoor", [4], true⟩
def ct : List Dx.ClsD := [c_GateError, c_NoGate, c_NoSide, c_NoMark, c_NoDoor]
/-! is_whole: 0 thing -/
/-! is_pair: 0 thing -/
/-! has_form: 0 thing, 1 row, 2 pair -/
/-! look_gate: 0 gate, 1 met, 2 k, 3 side, 4 mark, 5 row, 6 pair -/
/-! sides_of: 0 gate -/
/-! marks_of: 0 gate -/
/-! need_side: 0 gate, 1 side -/
/-! need_mark: 0 gate, 1 mark -/
/-! passed: 0 gate, 1 side, 2 mark -/
/-! turned_gate: 0 gate, 1 found, 2 mark, 3 row, 4 side, 5 pair -/
/-! _law_box: 0 _law_script, 1 _law_k, 2 _law_cell, 3 _law_seed -/
/-! _law_take: 0 _law_box_here, 1 _law_many, 2 _law_digit, 3 _law_one -/
/-! _law_alike: 0 _law_found, 1 _law_due_here, 2 _law_left, 3 _law_one, 4 _law_other -/
/-! _law_any_gate: 0 _law_box_here, 1 _law_sides, 2 _law_marks, 3 _law_left, 4 _law_found, 5 _law_mark, 6 _law_side -/
/-! _law_even_gate: 0 _law_box_here, 1 _law_sides, 2 _law_marks, 3 _law_on, 4 _law_more, 5 _law_alone, 6 _law_found, 7 _law_mark, 8 _law_row, 9 _law_side, 10 _law_shown -/
/-! _law_gate: 0 _law_box_here, 1 _law_sides, 2 _law_marks -/
/-! _law_told: 0 _law_gate_here, 1 _law_side, 2 _law_mark, 3 _law_found, 4 e -/
/-! _law_due: 0 _law_gate_here, 1 _law_side, 2 _law_mark -/
/-! _law_led_back: 0 _law_gate_here, 1 _law_found, 2 _law_mark, 3 _law_row, 4 _law_side, 5 _law_pair, 6 _law_rows -/
/-! law: 0 _law_script, 1 _law_k, 2 _law_box_here, 3 _law_gate_here, 4 _law_sides, 5 _law_marks, 6 _law_kept, 7 _law_side, 8 _law_mark, 9 _law_turn, 10 _law_about -/
end K03
set_option Elab.async false
set_option linter.all false
set_option maxHeartbeats 1000000
set_option maxRecDepth 100000
/-! Px3: k03: told, led back; loops over lists that are drawn -/
namespace Px
open PySem PySem.Spec L2 Dn Pn Qn Qm Pc Dx
section
variable {f : Fr} {P P' P1 P2 : Qn.PE} {S : Store} {i k n s m c c' : Nat} {g : Gate} {o : Option Nat} {v x y : D} {xs ys vs : List D} {ma mb : DE} {da : DA} {cc : Cell} {r' : DS}
/-! ### the table led back -/
noncomputable abbrev fI (g : Gate) : Nat × Nat → D := fun p => pairD (inv g p)
def lb (g : Gate) (c : Cell) (x2 x3 x4 x5 x6 : PV) : Qn.PE := [.d (gateD g), .c none c, x2, x3, x4, x5, x6]
end
end Px
set_option Elab.async false
set_option linter.all false
set_option maxHeartbeats 1000000
set_option maxRecDepth 100000
/-! Px4: k03: told; loops over lists that are drawn -/
namespace Px
open PySem PySem.Spec L2 Dn Pn Qn Qm Pc Dx
section
variable {f : Fr} {P P' P1 P2 : Qn.PE} {S : Store} {i k n s m c c' : Nat} {g : Gate} {o : Option Nat} {v x y : D} {xs ys vs : List D} {ma mb : DE} {da : DA} {cc : Cell} {r' : DS}
/-! ### loops over what is drawn -/
def EI (P : Qn.PE) (it : DI) (R : List D → Qn.PE → (Qn.PE → Prop) → Prop) : Prop := ∀ f E S, Sd f P E S → ∃ xs P1 W S' chk f', R xs P1 W ∧ it E S = .ok (xs, chk) S' ∧ Sd f' P1 E S' ∧ Sub f f' ∧ ∀ P2 E2 S2, W P2 → Sd f' P2 E2 S2 → chk S2 = true
theorem EI.new {R : List D → Qn.PE → (Qn.PE → Prop) → Prop} (h : EN P ma fun c P1 => ∃ xs, c = .lst xs ∧ R xs P1 WT) : EI P (iVal ma) R := fun f E S t => by
  obtain ⟨c, P1, n, S', ⟨xs, rfl, hr⟩, e, hn, t'⟩ := h f E S t
  refine ⟨xs, P1, WT, S', fun st' => isLst st' n xs, f.add n (.lst xs), hr, ?_, t', Sub.add hn, fun P2 E2 S2 _ t2 => isLst_of t2.addc⟩
  unfold iVal
  rw [e, Dn.R.bind_ok]
  unfold seqOf
  dsimp only
  rw [t'.addc]
end
end Px
set_option Elab.async false
set_option linter.all false
set_option maxHeartbeats 1000000
set_option maxRecDepth 100000
/-! Px5: k03's law, whole -/
namespace Px
open PySem PySem.Spec L2 Dn Pn Qn Qm Pc Dx
section
variable {s m k : Nat} {g : Gate} {ns : List Int} {c : Cell} {x4 x5 x6 x7 x8 x9 x10 : PV}
def w3 (ns : List Int) (k : Nat) (c : Cell) (x3 x4 x5 x6 x7 x8 x9 x10 : PV) : Qn.PE := [.d (.scr ns), .d (.int (k : Nat)), .c none c, x3, x4, x5, x6, x7, x8, x9, x10]
/-- behind the first steps -/
def g3 (ns : List Int) (k : Nat) (c : Cell) (s m : Nat) (g : Gate) (x7 x8 x9 x10 : PV) : Qn.PE := w3 ns k c (.d (gateD g)) (.d (.int (s : Nat))) (.d (.int (m : Nat))) (.d (.str (gateP g).shown)) x7 x8 x9 x10
/-- a number below m, more than what is told -/
theorem more {P : Qn.PE} {i b mk : Nat} {o : Option Nat} {c : Cell} {mb : DE} {R : D → Qn.PE → Prop} (hi : P[i]? = some (.c o c)) (hb : Ex P mb (.int (b : Nat)) P) (hc : IsBox c) (h1 : 0 < mk) (h2 : mk ≤ 1000000) (hr : ∀ (d : Nat) (c' : Cell), IsBox c' → R (.int ((b + d : Nat) : Int)) (P.set i (.c o c'))) :
    EE P (dBin vAdd mb (dCall FTake (aCons (dVar i) (aCons (dC (.int (mk : Nat))) aNil)))) R :=
  .bin (hb.ee (R := fun v P' => v = .int (b : Nat) ∧ P' = P) ⟨rfl, rfl⟩) (by
    rintro _ _ ⟨rfl, rfl⟩
    exact .draw hi (.con _) hi hc h1 h2 fun d c' hd hc' => ⟨_, t_add, hr d c' hc'⟩)
end
end Px
set_option Elab.async false
set_option linter.all false
set_option maxRecDepth 100000
set_option maxHeartbeats 4000000
namespace K02
open PySem PySem.Spec L2 Dn
def c_GateError : Dx.ClsD := ⟨"GateError", [0], false⟩
def c_NoGate : Dx.ClsD := ⟨"NoGate", [1, 0], false⟩
def c_NoHall : Dx.ClsD := ⟨"NoHall", [2, 0], false⟩
def c_NoShowing : Dx.ClsD := ⟨"NoShowing", [3, 0], false⟩
def c_NoText : Dx.ClsD := ⟨"NoText", [4, 0], false⟩
def c_Far : Dx.ClsD := ⟨"Far", [5, 0], false⟩
def c_Wide : Dx.ClsD := ⟨"Wide", [6, 0], false⟩
def c_NoTurn : Dx.ClsD := ⟨"NoTurn", [7, 0], false⟩
def c_Broken : Dx.ClsD := ⟨"Broken", [8, 0], false⟩
def c_NoRow : Dx.ClsD := ⟨"NoRow", [9, 0], false⟩
def ct : List Dx.ClsD := [c_GateError, c_NoGate, c_NoHall, c_NoShowing, c_NoText, c_Far, c_Wide, c_NoTurn, c_Broken, c_NoRow]
/-! is_whole: 0 thing -/
/-! is_pair: 0 thing -/
/-! has_form: 0 thing, 1 row, 2 pair -/
/-! look_gate: 0 gate, 1 met, 2 k, 3 side, 4 mark, 5 row, 6 pair -/
/-! _law_box: 0 _law_script, 1 _law_k, 2 _law_cell, 3 _law_seed -/
/-! _law_take: 0 _law_box_here, 1 _law_many, 2 _law_digit, 3 _law_one -/
/-! _law_alike: 0 _law_found, 1 _law_due_here, 2 _law_left, 3 _law_one, 4 _law_other -/
/-! _law_any_gate: 0 _law_box_here, 1 _law_sides, 2 _law_marks, 3 _law_left, 4 _law_found, 5 _law_mark, 6 _law_side -/
/-! _law_even_gate: 0 _law_box_here, 1 _law_sides, 2 _law_marks, 3 _law_on, 4 _law_more, 5 _law_alone, 6 _law_found, 7 _law_mark, 8 _law_row, 9 _law_side, 10 _law_shown -/
/-! _law_gate: 0 _law_box_here, 1 _law_sides, 2 _law_marks -/
/-! _law_is_whole: 0 _law_thing -/
/-! _law_has_form: 0 _law_thing, 1 _law_row, 2 _law_pair, 3 _law_one -/
/-! _law_due: 0 _law_thing, 1 _law_pairs, 2 _law_row, 3 _law_k, 4 _law_side, 5 _law_mark -/
/-! _law_told: 0 _law_thing, 1 _law_found, 2 e, 3 _law_strange -/
/-! _law_odd: 0 _law_box_here, 1 _law_some -/
/-! _law_spoilt: 0 _law_box_here, 1 _law_thing, 2 _law_form, 3 _law_at, 4 _law_other, 5 _law_found -/
/-! law: 0 _law_script, 1 _law_k, 2 _law_box_here, 3 _law_gate_here, 4 _law_turn, 5 _law_thing, 6 _law_more, 7 _law_odd_here -/
end K02
set_option Elab.async false
set_option linter.all false
set_option maxHeartbeats 1000000
set_option maxRecDepth 100000
/-! Pz1: k02: the form of any thing -/
namespace Pz
open PySem PySem.Spec L2 Dn Pn Qn Qm Pc Dx Px
section
variable {f : Fr} {P P' P1 P2 : Qn.PE} {S : Store} {i k n s m c c' : Nat} {o : Option Nat} {d v x y : D} {xs ys vs : List D} {ma mb : DE} {da : DA} {cc : Cell}
def isT : D → Bool
  | .tup _ => true
  | _ => false
def isN : D → Bool
  | .int _ => true
  | _ => false
def items : D → List D
  | .tup xs => xs
  | _ => []
def isPr (d : D) : Bool := isT d && (decide ((items d).length = 2) && (items d).all isN)
theorem isiT (h : Da k d) : ∀ S, bIsi [d, .ty "tuple"] S = .ok (.bl (isT d)) S := by cases h <;> exact fun S => rfl
theorem tup_of (h : isT d = true) : d = .tup (items d) := by cases d <;> first | rfl | cases h
theorem Da.items (h : Da (k + 1) d) : ∀ y ∈ items d, Da k y := by
  cases h with
  | tup h => exact h
  | _ => intro y hy; cases hy
theorem Da.items0 (h : Da 0 d) : Pz.items d = [] := by cases h <;> rfl
theorem lenT (ht : isT x = true) (h : Ex P ma x P') : Ex P (dCall bLen (aCons ma aNil)) (.int (items x).length) P' := by
  rw [tup_of ht] at h
  exact .len h
theorem whole2 (h : Da k d) : OpF [] FWhole [d] (.bl (isN d)) := by
  cases h with
  | int i => exact fn_data (P' := [.d (.int i)]) rfl (QS.ret (.andT (.call (.two (.var rfl) (.con _)) fun _ => rfl) (.not (b := false) (.call (.two (.var rfl) (.con _)) fun _ => rfl)))) rfl
  | bl b => exact fn_data (P' := [.d (.bl b)]) rfl (QS.ret (.andT (.call (.two (.var rfl) (.con _)) fun _ => rfl) (.not (b := true) (.call (.two (.var rfl) (.con _)) fun _ => rfl)))) rfl
  | str h => exact fn_data rfl (QS.ret (.andF (.call (.two (.var rfl) (.con _)) fun _ => rfl))) rfl
  | non => exact fn_data rfl (QS.ret (.andF (.call (.two (.var rfl) (.con _)) fun _ => rfl))) rfl
  | tup h => exact fn_data rfl (QS.ret (.andF (.call (.two (.var rfl) (.con _)) fun _ => rfl))) rfl
/-! ### has_form -/
end
end Pz
set_option Elab.async false
set_option linter.all false
set_option maxHeartbeats 1000000
set_option maxRecDepth 100000
/-! Pz2: k02: the law's own form -/
namespace Pz
open PySem PySem.Spec L2 Dn Pn Qn Qm Pc Dx Px
section
variable {f : Fr} {P P' P1 P2 : Qn.PE} {S : Store} {i k n s m c c' : Nat} {o : Option Nat} {d v x y : D} {xs ys vs : List D} {ma mb : DE} {da : DA} {cc : Cell}
/-- a list of data, asked whether it is empty -/
theorem neNil (h : ExN P ma (.lst xs) P') (hd : ∀ x ∈ xs, Da k x) (hk : k < 60) : Ex P (dBin vNe ma (dLst aNil)) (.bl (!xs.isEmpty)) P' :=
  .binHH h.hd ExN.nil.hd trivial trivial fun S n n' e e' => ne_nilD e e' hd hk
theorem isPr_ex (h : Da k y) (hw : wt y ≤ 1000000) {z : D} : ExB [.d z, .d x, .d y, .any] (dTOr (dTNot (dTest (dCall bIsi (aCons (dVar 2) (aCons (dC (.ty "tuple")) aNil))))) (dTOr (dTest (dBin vNe (dCall bLen (aCons (dVar 2) aNil)) (dC (.int 2)))) (dTNot (dTest (dCall bAll (aCons (dLc (iVal (dVar 2)) (gNm 3) dYes (dCall FWhole (aCons (dVar 3) aNil)) [3]) aNil)))))) (!isPr y) [.d z, .d x, .d y, .any] := by
  have e : (!isPr y) = (!isT y || (!decide ((items y).length = 2) || !(items y).all isN)) := by
    unfold isPr
    rw [Bool.not_and, Bool.not_and]
  rw [e]
  refine .or (.not (.test (.call (.two (.var (i := 2) rfl) (.con _)) (isiT h)))) fun ht => ?_
  have ht' : isT y = true := by simpa using ht
  have hy := tup_of ht'
  refine .or (.test (.bin (lenT ht' (.var (i := 2) rfl)) (.con (.int ((2 : Nat) : Int))) fun S => ?_)) fun hl => .not (.test ?_)
  · rw [t_neI]
    by_cases q : (items y).length = 2
    · simp [q]
    · simp [q]; omega
  · have hyd : ∀ z ∈ items y, Da k z := fun z hz => by
      cases k with
      | zero => rw [Da.items0 h] at hz; cases hz
      | succ k => exact (Da.items h z hz).up
    have hwy : (items y).length ≤ 1000000 := by
      have e2 : wt y = 1 + wts (items y) := by
        rw [hy]; simp [wt, items]
      have := wts_len (items y)
      omega
    have hit : It [.d z, .d x, .d y, .any] (iVal (dVar 2)) ((items y).map fun y : D => y) [.d z, .d x, .d y, .any] WT := by
      rw [List.map_id']
      exact It.tup (by rw [← hy]; exact .var rfl)
    exact Ex.allN (t := isN) (ExN.lc (P := [.d z, .d x, .d y, .any]) (it := iVal (dVar 2)) (g := gNm 3) (ws := [3]) (vs := [3]) (l := items y) (te := dCall FWhole (aCons (dVar 3) aNil)) (h := fun y : D => y) (fun y => .bl (isN y)) hit (sl_ge _ hwy) trivial (fun _ h => h) fun y hy => ⟨_, Tg.nm 3 _, .callF (.one (.var (i := 3) rfl)) (whole2 (hyd y hy)), rfl⟩)
/-- the pairs of one row -/
theorem rowL (hx : isT x = true) (h : ∀ y ∈ items x, Da k y ∧ wt y ≤ 1000000) {z : D} {x2 : PV} : ∃ o, (((items x).all isPr = true ∧ ∃ x2, o = .nx [.d z, .d x, x2, .any]) ∨ ((items x).all isPr = false ∧ ∃ P', o = .rt (.bl false) P')) ∧
    QS [.d z, .d x, x2, .any] (dFor (iVal (dVar 1)) (gNm 2) (dIf (dTOr (dTNot (dTest (dCall bIsi (aCons (dVar 2) (aCons (dC (.ty "tuple")) aNil))))) (dTOr (dTest (dBin vNe (dCall bLen (aCons (dVar 2) aNil)) (dC (.int 2)))) (dTNot (dTest (dCall bAll (aCons (dLc (iVal (dVar 2)) (gNm 3) dYes (dCall FWhole (aCons (dVar 3) aNil)) [3]) aNil)))))) (dRet (dC (.bl false))) dNext)) o := by
  refine QS.forP (xs := items x) (P1 := [.d z, .d x, x2, .any]) (W := WT) (fun r P => (∃ x2, P = [.d z, .d x, x2, .any]) ∧ ∀ y ∈ (items x).take r, isPr y = true) _ (It.tup (by rw [← tup_of hx]; exact .var rfl)) ⟨⟨_, rfl⟩, by simp⟩ (fun _ _ _ => trivial) ?_ ?_
  · rintro P ⟨⟨x2, rfl⟩, ha⟩
    rw [List.take_length] at ha
    exact .inl ⟨List.all_eq_true.mpr ha, x2, rfl⟩
  · rintro r y P hy ⟨⟨x2, rfl⟩, ha⟩
    obtain ⟨hyd, hyw⟩ := h y (List.mem_of_getElem? hy)
    have t := isPr_ex (x := x) (z := z) hyd hyw
    refine ⟨[2], _, Tg.nm 2 _, ?_⟩
    cases hp : isPr y with
    | true =>
      rw [hp] at t
      refine ⟨_, QS.ifF t .next, ⟨_, rfl⟩, fun w hw => ?_⟩
      rw [List.take_add_one, hy] at hw
      rcases List.mem_append.mp hw with hw | hw
      · exact ha w hw
      · have : w = y := by simpa using hw
        rw [this]; exact hp
    | false =>
      rw [hp] at t
      refine ⟨_, QS.ifT t (.ret (.con _)), .inr ⟨?_, _, rfl⟩⟩
      cases q : (items x).all isPr with
      | false => rfl
      | true => rw [List.all_eq_true.mp q y (List.mem_of_getElem? hy)] at hp; cases hp
end
end Pz
set_option Elab.async false
set_option linter.all false
set_option maxHeartbeats 1000000
set_option maxRecDepth 100000
/-! Pz3: k02: the verdict -/
namespace Pz
open PySem PySem.Spec L2 Dn Pn Qn Qm Pc Dx Px
abbrev IP := Int × Int
def pI (p : IP) : D := .tup [.int p.1, .int p.2]
def rI (r : List IP) : D := .tup (r.map pI)
end Pz
set_option Elab.async false
set_option linter.all false
set_option maxHeartbeats 1000000
set_option maxRecDepth 100000
/-! Pz4: k02: look_gate and what is due -/
namespace Pz
open PySem PySem.Spec L2 Dn Pn Qn Qm Pc Dx Px
section
variable {f : Fr} {P P' P1 P2 : Qn.PE} {S : Store} {i j k n s m c c' : Nat} {o : Option Nat} {d v x y : D} {xs ys vs : List D} {ma mb : DE} {da : DA} {cc : Cell} {p : IP} {ps : List IP} {rows : List (List IP)}
theorem cut_to (xs : List D) (r : Nat) : cutD xs none (some ((r : Nat) : Int)) = xs.take r := by
  unfold cutD
  rw [HT.sIx_nat]
  show (xs.drop 0).take (min r xs.length - 0) = _
  rw [List.drop_zero, Nat.sub_zero]
  by_cases h : r ≤ xs.length
  · rw [Nat.min_eq_left h]
  · rw [Nat.min_eq_right (by omega), List.take_length, List.take_of_length_le (by omega)]
def pP (p : IP) : PyData := .tuple [.int p.1, .int p.2]
/-! ### look_gate -/
/-! ### due -/
def duP (d : D) (n1 : Nat) (ps : List IP) (x2 x3 x4 x5 : PV) : Qn.PE := [.d d, .c (some n1) (.lst (ps.map pI)), x2, x3, x4, x5]
end
end Pz
set_option Elab.async false
set_option linter.all false
set_option maxHeartbeats 1000000
set_option maxRecDepth 100000
/-! Pz5: k02: told and due are alike -/
namespace Pz
open PySem PySem.Spec L2 Dn Pn Qn Qm Pc Dx Px
end Pz
set_option Elab.async false
set_option linter.all false
set_option maxHeartbeats 1000000
set_option maxRecDepth 100000
/-! Pz6: k02: odd things, things spoilt -/
namespace Pz
open PySem PySem.Spec L2 Dn Pn Qn Qm Pc Dx Px
section
variable {f : Fr} {P P' P1 P2 : Qn.PE} {S : Store} {i j k n s m a b : Nat} {c c' : Cell} {o : Option Nat} {d v x y : D} {xs ys vs : List D} {ma mb : DE} {da : DA}
theorem Da.lt {n : Nat} (h : Da k d) : D.lt n d = true := by
  induction h with
  | int i => simp
  | str h => simp
  | bl b => simp
  | non => simp
  | @tup k xs h ih =>
    rw [D.lt_tup]
    clear h
    induction xs with
    | nil => simp
    | cons x xs ihx =>
      rw [D.lts_cons, ih x (List.mem_cons_self ..), ihx fun y hy => ih y (List.mem_cons_of_mem _ hy)]
      rfl
theorem Da.ups (h : Da k d) : ∀ j, Da (k + j) d
  | 0 => h
  | j + 1 => (Da.ups h j).up
/-! ### spoilt -/
end
end Pz
set_option Elab.async false
set_option linter.all false
set_option maxHeartbeats 1000000
set_option maxRecDepth 100000
/-! Pt2: table_of, show_gate, _law_text -/
namespace Pt
open PySem PySem.Spec L2 Dn Pn Qn Tx TL
section
variable {P P' P1 P2 : Qn.PE} {w t : Str} {ma mb : DE}
theorem blsOf_map {α : Type} (t : α → Bool) : ∀ l : List α, blsOf (l.map fun a => D.bl (t a)) = some (l.map t)
  | [] => rfl
  | a :: l => by
    show (blsOf (l.map fun a => D.bl (t a))).map _ = _
    rw [blsOf_map t l]
    rfl
theorem allSome_none {α : Type} : ∀ {l : List (Option α)}, none ∈ l → allSome l = none
  | none :: _, _ => rfl
  | some a :: l, h => by
    have h' : none ∈ l := by simpa using h
    show (allSome l).map _ = _
    rw [allSome_none h']
    rfl
end
end Pt
set_option Elab.async false
set_option linter.all false
set_option maxHeartbeats 1000000
set_option maxRecDepth 100000
/-! Pt3: show_gate, _law_text; read_gate of a gate's text; eq of gates -/
namespace Pt
open PySem PySem.Spec L2 Dn Pn Qn Tx TL
section
variable {P P' P1 P2 : Qn.PE} {w t : Str} {ma mb : DE} {s m i j k : Nat} {g h : Gate} {r : List (Nat × Nat)} {o : Option Nat}
/-- a table that can be written -/
structure Tb (s m : Nat) (g : Gate) : Prop where
  sh : Shape s m g
  ent : ∀ r ∈ g, ∀ p ∈ r, p.1 < 1000000 ∧ p.2 < 1000000
  sz : s * m ≤ 5000
theorem Tb.of (hs : Shape s m g) (hg : IsGate s m g) (hz : s * m ≤ 5000) : Tb s m g := ⟨hs, fun r hr p hp => by
  have h1 : p ∈ g.flatten := List.mem_flatten.mpr ⟨r, hr, hp⟩
  have h2 := mem_allP.mp (hg.perm.mem_iff.mp h1)
  have := hs.s1
  have := hs.m1
  omega, hz⟩
end
end Pt
set_option Elab.async false
set_option linter.all false
set_option maxHeartbeats 1000000
set_option maxRecDepth 100000
/-! Pz7: k02: a thing spoilt -/
namespace Pz
open PySem PySem.Spec L2 Dn Pn Qn Qm Pc Dx Px
section
variable {f : Fr} {P P' P1 P2 : Qn.PE} {S : Store} {i j k n s m a b : Nat} {c c' : Cell} {o : Option Nat} {d v x y : D} {xs ys vs : List D} {ma mb : DE} {da : DA} {x2 x3 x4 x5 : PV}
def sP (b : Nat) (c : Cell) (d : D) (x2 x3 x4 x5 : PV) : Qn.PE := [.c (some b) c, .d d, x2, x3, x4, x5]
/-- what is answered -/
def SO (b k : Nat) (d : D) (o : Out) : Prop := ∃ v P' c', o = .rt v P' ∧ P'[0]? = some (.c (some b) c') ∧ D.lt 0 v = true ∧ c'.lt 0 = true ∧ (IsBox c' ∧ Da (k + 3) v ∧ wt v ≤ 3 * wt d + 40)
theorem SO.of (hb : IsBox c) (h : Da (k + 3) v) (hw : wt v ≤ 3 * wt d + 40) : SO b k d (.rt v (sP b c d x2 x3 x4 x5)) := ⟨v, _, c, rfl, rfl, Da.lt h, hb.lt 0, hb, h, hw⟩
end
end Pz
set_option Elab.async false
set_option linter.all false
set_option maxHeartbeats 1000000
set_option maxRecDepth 100000
/-! Pz8: k02's law, whole -/
namespace Pz
open PySem PySem.Spec L2 Dn Pn Qn Qm Pc Dx Px
section
variable {s m k : Nat} {g : Gate} {ns : List Int} {c : Cell} {d : D} {x1 x2 x3 x4 x5 x6 x7 : PV}
theorem wt_row (r : List (Nat × Nat)) : wts (r.map pairD) = 3 * r.length := by
  induction r with
  | nil => rfl
  | cons p r ih => rw [List.map_cons, wts, ih]; simp [pairD, wt, wts]; omega
def q2 (ns : List Int) (k : Nat) (c : Cell) (x3 x4 x5 x6 x7 : PV) : Qn.PE := [.d (.scr ns), .d (.int (k : Nat)), .c none c, x3, x4, x5, x6, x7]
/-- a comprehension whose items are drawn -/
theorem lc_outE {W : Qn.PE → Prop} {te : DE} {g : DG} {ws : List Nat} {f : Fr} {chk : Store → Bool} (I : Nat → Qn.PE → List D → Prop) (hW : ∀ i P acc, I i P acc → W P) (hc : ∀ P2 E2 S2, W P2 → Sd f P2 E2 S2 → chk S2 = true) : ∀ (xs : List D) (i : Nat) (P : Qn.PE) (acc : List D), I i P acc →
    (∀ r x P acc, xs[r]? = some x → I (i + r) P acc → acc.length < sizeLine ∧ ∃ P2, Tg ws P g x P2 ∧ EE P2 te fun y P3 => I (i + r + 1) (wipeP P3 ws) (acc ++ [y])) →
    ∀ E S, Sd f P E S → ∃ Q acc' S', I (i + xs.length) Q acc' ∧ lcL chk g dYes te E xs acc S = .ok acc' S' ∧ Sd f Q E S'
  | [], i, P, acc, h, _, E, S, t => ⟨P, acc, S, h, by unfold lcL; rw [if_pos (hc P E S (hW _ _ _ h) t)], t⟩
  | x :: xs, i, P, acc, h, hs, E, S, t => by
    obtain ⟨hl, P2, tg, he⟩ := hs 0 x P acc rfl h
    obtain ⟨E1, S1, e1, t1, l1, a1⟩ := tg f E S t
    obtain ⟨y, P3, S2, h3, e2, t2⟩ := he f E1 S1 t1
    obtain ⟨Q, acc', S', hq, e3, t3⟩ := lc_outE (te := te) (g := g) (ws := ws) I hW hc xs (i + 1) (wipeP P3 ws) (acc ++ [y]) h3 (fun r z P acc hz hi => by
      have := hs (r + 1) z P acc (by simpa using hz) (by rw [show i + (r + 1) = i + 1 + r by omega]; exact hi)
      rw [show i + (r + 1) + 1 = i + 1 + r + 1 by omega] at this
      exact this) E S2 (t2.env l1.symm fun i hi => (a1 i hi).symm)
    refine ⟨Q, acc', S', by rw [List.length_cons, show i + (xs.length + 1) = i + 1 + xs.length by omega]; exact hq, ?_, t3⟩
    unfold lcL
    rw [if_pos (hc P E S (hW _ _ _ h) t), e1]
    show (match te E1 S1 with
      | .ok y st3 => if acc.length < sizeLine then lcL chk g dYes te E xs (acc ++ [y]) st3 else .bad
      | _ => .bad) = _
    rw [e2]
    dsimp only
    rw [if_pos hl]
    exact e3
theorem EN.lcE {P P1 : Qn.PE} {xs : List D} {W : Qn.PE → Prop} {it : DI} {te : DE} {g : DG} {ws vs : List Nat} {Rc : Cell → Qn.PE → Prop} (I : Nat → Qn.PE → List D → Prop) (hi : It P it xs P1 W) (h0 : I 0 (wipeP P1 vs) []) (hW : ∀ i P acc, I i P acc → W P)
    (step : ∀ r x P acc, xs[r]? = some x → I r P acc → acc.length < sizeLine ∧ ∃ P2, Tg ws P g x P2 ∧ EE P2 te fun y P3 => I (r + 1) (wipeP P3 ws) (acc ++ [y])) (hr : ∀ Q acc, I xs.length Q acc → Rc (.lst acc) (backP P1 Q vs)) : EN P (dLc it g dYes te vs) Rc := fun f E S t => by
  obtain ⟨S1, chk, f', e1, t1, u, hc⟩ := hi f E S t
  obtain ⟨Q, acc, S2, hq, e2, t2⟩ := lc_outE (te := te) (g := g) (ws := ws) I hW hc xs 0 (wipeP P1 vs) [] h0 (by simpa using step) (dWipe E vs) S1 (t1.wipe vs)
  rw [Nat.zero_add] at hq
  have t3 : Sd f' (wipeP Q vs) E S2 := t2.env (dWipe_len vs).symm fun i hi => (dWipe_get vs i hi).symm
  have t4 := Sd.back (P := P1) t1 t3 vs fun v h => h
  obtain ⟨q1, q2⟩ := (t4.weak u t.kn).newAt (g := [.lst acc]) (n := S2.length) (c := .lst acc) (Nat.le_refl _) (by simp)
  refine ⟨.lst acc, _, _, _, hr Q acc hq, ?_, q1, q2⟩
  unfold dLc
  rw [e1, Dn.R.bind_ok]
  dsimp only
  rw [e2, Dn.R.bind_ok]
  rfl
end
end Pz
set_option Elab.async false
set_option linter.all false
set_option maxHeartbeats 1000000
set_option maxRecDepth 100000
/-! Pt4: k08's law -/
namespace Pt
open PySem PySem.Spec L2 Dn Pn Qn Tx TL Pc
section
variable {P P' P1 P2 : Qn.PE} {w t : Str} {ma mb : DE} {s m i j k n : Nat} {g h : Gate} {r : List (Nat × Nat)} {o : Option Nat} {c c' c0 : Cell} {da : DA}
/-! ### == of gates -/
theorem eqv_pair (p q : Nat × Nat) : PyData.eqv (pairP p) (pairP q) = decide (p = q) := by
  obtain ⟨a, b⟩ := p
  obtain ⟨a', b'⟩ := q
  simp only [pairP, PyData.eqv, PyData.eqvAll, Bool.and_true]
  rw [Bool.eq_iff_iff]
  simp only [Bool.and_eq_true, beq_iff_eq, decide_eq_true_eq, Prod.mk.injEq]
  omega
theorem Tb.ne (hg : Tb s m g) : g ≠ [] := fun e => by
  have h1 := hg.sh.len
  have h2 := hg.sh.m0
  rw [e] at h1
  simp at h1
  omega
theorem Tb.tab (hg : Tb s m g) : tabOf (gateS g) = some g := tabOf_gate hg.ne fun r hr => ⟨fun e => by
  have h1 := hg.sh.rows r hr
  have h2 := hg.sh.s0
  rw [e] at h1
  simp at h1
  omega, hg.ent r hr⟩
theorem Tb.inj {s' m' : Nat} (hg : Tb s m g) (hh : Tb s' m' h) : gateS g = gateS h ↔ g = h := ⟨fun e => by
  have e1 := hg.tab
  rw [e, hh.tab] at e1
  exact (Option.some.inj e1).symm, fun e => by rw [e]⟩
/-! ### read_gate -/
end
end Pt
set_option Elab.async false
set_option linter.all false
set_option maxHeartbeats 1000000
set_option maxRecDepth 100000
/-! Pt5: k08's law -/
namespace Pt
open PySem PySem.Spec L2 Dn Pn Qn Tx TL Pc
section
variable {P P' P1 P2 : Qn.PE} {w t : Str} {ma mb : DE} {s m i j k n : Nat} {g h : Gate} {r : List (Nat × Nat)} {o : Option Nat} {c c' c0 : Cell} {da : DA} {ns : List Int} {ds : List D} {x2 x3 x4 x5 x6 : PV}
def G8 (g : Gate) : Prop := ∃ s m, 0 < s ∧ s ≤ 12 ∧ 0 < m ∧ m ≤ 32 ∧ IsGate s m g
def Gs (ds : List D) (k : Nat) : Prop := ∃ gs : List Gate, ds = gs.map gateD ∧ (∀ g ∈ gs, G8 g) ∧ gs.length ≤ k
theorem Gs.len (h : Gs ds k) : ds.length ≤ k := by
  obtain ⟨gs, rfl, _, h2⟩ := h
  rw [List.length_map]
  exact h2
theorem Gs.add (h : Gs ds k) (hg : G8 g) : Gs (ds ++ [gateD g]) (k + 1) := by
  obtain ⟨gs, rfl, h1, h2⟩ := h
  refine ⟨gs ++ [g], by simp, fun q hq => ?_, by simp; omega⟩
  rcases List.mem_append.mp hq with hq | hq
  · exact h1 q hq
  · rw [List.mem_singleton.mp hq]; exact hg
theorem Gs.up {k' : Nat} (h : Gs ds k) (hk : k ≤ k') : Gs ds k' := let ⟨gs, a, b, c⟩ := h; ⟨gs, a, b, by omega⟩
end
end Pt
set_option Elab.async false
set_option linter.all false
set_option maxHeartbeats 1000000
set_option maxRecDepth 100000
/-! Qk1: known cells that stand whatever is done: lists in lists -/
namespace Qn
open PySem PySem.Spec L2 Dn Pn
section
variable [K : KF] {f f' : Fr} {P P' P0 P1 P2 P3 : PE} {E : Dn.Env} {S g : Store} {i j n n1 n2 : Nat} {o : Option Nat} {c c' : Cell} {x y z v w : D} {m ma mb mc : DE} {da : DA} {xs ys vs : List D} {st st' : DS} {O : Out → Prop}
theorem Sd.known (s : Sd f P E S) (hk : KF.k n = some c) : S[n]? = some c := s.fr n c (s.kn n c hk)
/-! ### from the least to this -/
theorem Sd.low (h : Sd f P E S) : @Sd kf0 f P E S := by
  cases h with
  | mk a b c d e => exact @Sd.mk kf0 _ _ _ _ a b c d fun _ _ e => (by cases e)
theorem Sd.high (h : @Sd kf0 f P E S) (hk : ∀ n c, K.k n = some c → f n = some c) : Sd f P E S := by
  cases h with
  | mk a b c d e => exact @Sd.mk K _ _ _ _ a b c d hk
theorem Ex.k (h : @Ex kf0 P m v P') : Ex P m v P' := fun f E S s => let ⟨S', e, s'⟩ := h f E S s.low; ⟨S', e, s'.high s.kn⟩
theorem Fits.k {r : RS} {ou : Out} (h : @Fits kf0 f r ou) (hk : ∀ n c, K.k n = some c → f n = some c) : Fits f r ou := by
  cases ou <;> cases r <;> first | exact h.elim | exact Sd.high h hk | skip
  · obtain ⟨a, E, e⟩ := h
    exact ⟨a, E, Sd.high e hk⟩
  · obtain ⟨n, E, a, b, d⟩ := h
    exact ⟨n, E, a, b, Sd.high d fun k d e => by rw [Fr.add_ne f (fun z => by rw [z] at e; rw [hk _ _ e] at b; cases b)]; exact hk k d e⟩
  · obtain ⟨a, e⟩ := h
    exact ⟨a, Sd.high e hk⟩
theorem QS.k {ou : Out} (h : @QS kf0 P st ou) : QS P st ou := fun f E S s => (h f E S s.low).k s.kn
/-! ### what is known more -/
/-- all that is new behind S is known -/
def KF.more (K : KF) (S S' : Store) : KF := ⟨fun n => if n < S.length then K.k n else S'[n]?⟩
def Fr.more (f : Fr) (S S' : Store) : Fr := fun n => if n < S.length then f n else S'[n]?
theorem KF.more_new {S S' : Store} (hn : S.length ≤ n) (h : S'[n]? = some c) : (K.more S S').k n = some c := by
  show (if n < S.length then K.k n else S'[n]?) = _
  rw [if_neg (by omega), h]
theorem KF.more_old {S S' : Store} (s : Sd f P E S) (h : K.k n = some c) : (K.more S S').k n = some c := by
  show (if n < S.length then K.k n else S'[n]?) = _
  rw [if_pos (get_lt (s.known h)), h]
theorem Fr.sub_more {S' : Store} (s : Sd f P E S) : Sub f (f.more S S') := fun n c e => by
  unfold Fr.more
  rw [if_pos (get_lt (s.fr n c e)), e]
theorem Sd.learn (s : Sd f P E S) (g : Store) : @Sd (K.more S (S ++ g)) (f.more S (S ++ g)) P E (S ++ g) := by
  have s1 := s.grow g
  refine @Sd.mk (K.more S (S ++ g)) _ _ _ _ s.len (fun n c e => ?_) (fun i p e => ?_) s.sep (fun n c e => ?_)
  · unfold Fr.more at e
    split at e
    · exact s1.fr n c e
    · exact e
  · have q := s1.at_ i p e
    cases p with
    | any => trivial
    | d v => exact q
    | c o c' =>
      obtain ⟨n, a, b, d⟩ := q
      refine ⟨n, a, b, ?_, d.2⟩
      unfold Fr.more
      obtain ⟨n', a', b', _⟩ := s.cell e
      rw [a] at a'
      cases a'
      rw [if_pos (get_lt b')]
      exact d.1
  · have e' : (if n < S.length then K.k n else (S ++ g)[n]?) = some c := e
    unfold Fr.more
    split at e'
    · rename_i h
      rw [if_pos h]
      exact s.kn n c e'
    · rename_i h
      rw [if_neg h]
      exact e'
/-- .. and is known no more -/
theorem Sd.unlearn {K2 : KF} (h : @Sd K2 f' P E S) (u : Sub f f') (hk : ∀ n c, K.k n = some c → f n = some c) : @Sd K f P E S := by
  have h1 : @Sd K f' P E S := by
    cases h with
    | mk a b c d e => exact @Sd.mk K _ _ _ _ a b c d fun n c e => u n c (hk n c e)
  exact @Sd.weak K _ _ _ _ _ h1 u hk
theorem Fits.unlearn {K2 : KF} {r : RS} {ou : Out} (h : @Fits K2 f' r ou) (u : Sub f f') (hk : ∀ n c, K.k n = some c → f n = some c) : @Fits K f r ou := by
  cases ou <;> cases r <;> first | exact h.elim | exact Sd.unlearn (K := K) h u hk | skip
  · obtain ⟨a, E, e⟩ : _ ∧ ∃ E, @Sd K2 _ _ E _ := h
    exact ⟨a, E, Sd.unlearn (K := K) e u hk⟩
  · obtain ⟨n, E, a, b, d⟩ : ∃ n E, _ ∧ f' n = none ∧ @Sd K2 (f'.add n _) _ E _ := h
    exact ⟨n, E, a, u.none b, Sd.unlearn (K := K) d (u.addS n _) fun k d e => by rw [Fr.add_ne f (fun z => by rw [z] at e; have q := u _ _ (hk _ _ e); rw [b] at q; cases q)]; exact hk k d e⟩
  · obtain ⟨a, e⟩ : _ ∧ @Sd K2 _ _ _ _ := h
    exact ⟨a, Sd.unlearn (K := K) e u hk⟩
/-- x = e; .. where e tells a value and makes new cells -/
theorem QE.learn (hc : ∀ f E S, Sd f P E S → ∃ v g, m E S = .ok v (S ++ g) ∧ ∀ K' : KF, (∀ n c, S.length ≤ n → (S ++ g)[n]? = some c → K'.k n = some c) → (∀ n c, K.k n = some c → K'.k n = some c) → @QE K' (P.set i (.d v)) st O) : QE P (dSeq (dAsg m (gNm i)) st) O := fun f E S s => by
  obtain ⟨v, g, e, h⟩ := hc f E S s
  obtain ⟨o, ho, ft⟩ := h (K.more S (S ++ g)) (fun n c hn hc => KF.more_new hn hc) (fun n c hk => KF.more_old s hk) _ _ _ (@Sd.setD (K.more S (S ++ g)) _ _ _ _ (Sd.learn s g) i v)
  refine ⟨o, ho, ?_⟩
  have e2 : dAsg m (gNm i) E S = .nx (E.set i (some v)) (S ++ g) := by rw [e_asg, e, R.toS_ok]; rfl
  rw [e_seq, e2]
  exact Fits.unlearn ft (Fr.sub_more s) s.kn
/-! ### known lists -/
theorem Ex.callKn {F : DF} (h : ExA P da vs P') (hK : KF.k n = some c) (hF : ∀ S, S[n]? = some c → F vs S = .ok v S) : Ex P (dCall F da) v P' := fun f E S t => by
  obtain ⟨S1, e1, t1⟩ := h f E S t
  exact ⟨S1, by rw [e_call, e1, Dn.R.bind_ok, hF _ (t1.known hK)], t1⟩
theorem Ex.lenKn (h : Ex P m (.ref n) P') (hK : KF.k n = some (.lst xs)) : Ex P (dCall bLen (aCons m aNil)) (.int xs.length) P' := Ex.callKn (.one h) hK fun _ e => len_at e
theorem Ex.tupleKn (h : Ex P m (.ref n) P') (hK : KF.k n = some (.lst xs)) : Ex P (dCall bTuple (aCons m aNil)) (.tup xs) P' := Ex.callKn (.one h) hK fun _ e => tuple_at e
theorem Ex.binKn {t : D → D → Store → R D} (ha : Ex P ma (.ref n) P1) (hb : Ex P1 mb y P2) (hK : KF.k n = some c) (ht : ∀ S, S[n]? = some c → t (.ref n) y S = .ok z S) : Ex P (dBin t ma mb) z P2 := fun f E S s => by
  obtain ⟨S1, e1, s1⟩ := ha f E S s
  obtain ⟨S2, e2, s2⟩ := hb f E S1 s1
  exact ⟨S2, by rw [e_Bin, e1, Dn.R.bind_ok, e2, Dn.R.bind_ok, ht _ (s2.known hK)], s2⟩
theorem Ex.ixKn {i : Nat} (ha : Ex P ma (.ref n) P1) (hb : Ex P1 mb (.int (i : Nat)) P2) (hK : KF.k n = some (.lst xs)) (hx : xs[i]? = some x) : Ex P (dBin vIx ma mb) x P2 := .binKn ha hb hK fun S e => t_ixL hx S n e
theorem It.lstKn {it : DI} (h : Ex P m (.ref n) P1) (hK : KF.k n = some (.lst xs)) : It P (iVal m) xs P1 WT := fun f E S s => by
  obtain ⟨S1, e1, s1⟩ := h f E S s
  refine ⟨S1, fun S2 => isLst S2 n xs, f, ?_, s1, Sub.refl f, fun P2 E2 S2 _ s2 => isLst_of (s2.known hK)⟩
  unfold iVal
  rw [e1, Dn.R.bind_ok]
  unfold seqOf
  dsimp only
  rw [s1.known hK]
/-- a slot's list, a known list's items put behind -/
theorem Ex.extendKn (hP : P[j]? = some (.c o (.lst xs))) (h : Ex P m (.ref n) P1) (hK : KF.k n = some (.lst vs)) (hP1 : P1[j]? = some (.c o (.lst ys))) (hl : ys.length + vs.length ≤ sizeLine) : Ex P (dMeth "list" mExtend (dVar j) (aCons m aNil)) .non (P1.set j (.c o (.lst (ys ++ vs)))) := fun f E S s => by
  obtain ⟨n', e1, e2, _⟩ := s.cell hP
  obtain ⟨S1, e3, s1⟩ := h f E S s
  obtain ⟨n'', e1', e4, _⟩ := s1.cell hP1
  rw [e1] at e1'
  cases e1'
  have h1 := s1.known hK
  have hv : dVar j E S = .ok (.ref n') S := by unfold dVar; rw [e1]
  refine ⟨_, ?_, s1.write hP1 e1 _⟩
  rw [e_meth, hv, Dn.R.bind_ok, recvL e2, if_pos rfl, e_acons, e3, Dn.R.bind_ok, e_anil, Dn.R.bind_ok, Dn.R.bind_ok]
  unfold mExtend
  dsimp only
  rw [e4, h1]
  dsimp only
  rw [if_pos hl]
end
end Qn
set_option Elab.async false
set_option linter.all false
set_option maxHeartbeats 1000000
set_option maxRecDepth 100000
/-! Tm2: figures without a nought ahead; how many words; the verdict on a table (plain) -/
namespace Tx
open PySem PySem.Spec L2 Dn Pn TL
theorem ofNat_dig : ∀ c : Nat, 48 ≤ c → c ≤ 57 → (Char.ofNat c).toNat = c := by
  intro c h1 h2
  have : ∀ c : Fin 58, (Char.ofNat c.1).toNat = c.1 := by decide
  exact this ⟨c, by omega⟩
theorem map_dig : ∀ {l : List Nat}, NumText.AllDigits l → (l.map Char.ofNat).map Char.toNat = l
  | [], _ => rfl
  | c :: l, h => by
    rw [List.map_cons, List.map_cons, ofNat_dig c h.head.1 h.head.2, map_dig h.tail]
theorem drop_le (l : List Nat) : (l.dropWhile (· == 48)).length ≤ l.length := List.Sublist.length_le (List.dropWhile_sublist _)
theorem canon {l : List Nat} (h : NumText.AllDigits l) (hne : l ≠ []) : numL (NumText.digitsVal l) = l ↔ ¬ (l.head? = some 48 ∧ l ≠ [48]) := by
  have t := NumText.toDigits_all l h
  cases l with
  | nil => exact absurd rfl hne
  | cons c r =>
    unfold numL
    by_cases hc : c = 48
    · subst hc
      by_cases hr : r = []
      · subst hr
        rw [t]
        simp
      · constructor
        · intro e
          exfalso
          have hl := congrArg List.length e
          rw [t] at hl
          have hd : ((48 :: r).dropWhile (· == 48)).length ≤ r.length := by
            rw [List.dropWhile_cons]
            simp only [beq_self_eq_true, if_true]
            exact drop_le r
          have hr0 : 0 < r.length := List.length_pos_iff.mpr hr
          cases hq : (48 :: r).dropWhile (· == 48) with
          | nil =>
            rw [hq] at hl
            simp at hl
            exact hr hl
          | cons a b =>
            rw [hq] at hl hd
            simp at hl hd
            omega
        · intro e
          exact absurd ⟨rfl, by simp [hr]⟩ e
    · constructor
      · intro _ e
        simp at e
        exact hc e.1
      · intro _
        rw [t, List.dropWhile_cons, if_neg (by simpa using hc)]
        exact map_dig h
theorem val_lt : ∀ {l : List Nat}, NumText.AllDigits l → ∀ a : Nat, l.foldl (fun acc c => acc * 10 + (c - 48)) a < (a + 1) * 10 ^ l.length
  | [], _, a => by simp
  | c :: l, h, a => by
    have hc := h.head
    have := val_lt h.tail (a * 10 + (c - 48))
    rw [List.foldl_cons, List.length_cons, Nat.pow_succ, Nat.mul_comm (10 ^ l.length) 10, ← Nat.mul_assoc]
    refine Nat.lt_of_lt_of_le this (Nat.mul_le_mul_right _ ?_)
    omega
theorem val_lt6 {l : List Nat} (h : NumText.AllDigits l) (hl : l.length ≤ 6) : NumText.digitsVal l < 1000000 := by
  have := val_lt h 0
  unfold NumText.digitsVal
  have h2 : 10 ^ l.length ≤ 10 ^ 6 := Nat.pow_le_pow_right (by decide) hl
  omega
/-! ### how many words -/
def big (ws : List (List Nat)) : Nat := (ws.map fun w => w.length + 1).sum
theorem big_cons (w : List Nat) (ws : List (List Nat)) : big (w :: ws) = w.length + 1 + big ws := by simp [big]
theorem big_spl {s : Nat} {S : List Nat} : ∀ (l acc : List Nat) (k : Nat), big (spl (s :: S) k acc l) ≤ acc.length + l.length + 1
  | [], acc, k => by rw [spl_nil]; simp [big]
  | d :: l, acc, 0 => by
    cases hpre : pre (s :: S) (d :: l) with
    | true =>
      rw [spl_hit hpre, big_cons]
      have := big_spl (s := s) (S := S) l [] ((s :: S).length - 1)
      simp at this ⊢
      omega
    | false =>
      rw [spl_miss hpre]
      have := big_spl (s := s) (S := S) l (acc ++ [d]) 0
      simp at this ⊢
      omega
  | d :: l, acc, k + 1 => by
    rw [spl_pass, List.drop_succ_cons, ← spl_pass]
    have := big_spl (s := s) (S := S) l acc k
    simp
    omega
def bigS (ws : List Str) : Nat := (ws.map fun w => w.length + 1).sum
theorem bigS_tl : ∀ ws : List Str, bigS ws = big (ws.map tl)
  | [] => rfl
  | w :: ws => by
    have := bigS_tl ws
    unfold bigS big at this ⊢
    rw [List.map_cons, List.map_cons, List.map_cons, List.sum_cons, List.sum_cons, this, len_tl]
theorem bigS_split {x y : Str} {s : Nat} {S : List Nat} (hy : tl y = s :: S) (hk : ¬ Builtin.Str.strKind x < Builtin.Str.strKind y) : bigS (Txt.split x y) ≤ x.length + 1 := by
  rw [bigS_tl, split_spl x y (by rw [hy]; simp) hk, hy, len_tl]
  have := big_spl (s := s) (S := S) (tl x) [] 0
  simpa using this
theorem bigS_len (ws : List Str) : ws.length ≤ bigS ws := by
  induction ws with
  | nil => exact Nat.zero_le _
  | cons w ws ih =>
    unfold bigS at ih ⊢
    rw [List.map_cons, List.sum_cons, List.length_cons]
    omega
theorem bigS_cons (w : Str) (ws : List Str) : bigS (w :: ws) = w.length + 1 + bigS ws := by simp [bigS]
theorem join_sp_len (ws : List Str) : (Txt.join (Str.ofString " ") ws).length ≤ bigS ws := by
  rw [join_eq, len_tl, tl_join, tl_sp]
  induction ws with
  | nil => exact Nat.zero_le _
  | cons w ws ih =>
    cases ws with
    | nil =>
      show (tl w).length ≤ _
      rw [bigS_cons, len_tl]
      omega
    | cons v ws =>
      show (tl w ++ ([32] ++ joinL [32] ((v :: ws).map tl))).length ≤ _
      rw [bigS_cons, List.length_append, List.length_append, len_tl]
      simp at ih ⊢
      omega
/-! ### the verdict -/
def vn (n m : Nat) : List (Nat × Nat) → Nat → List (Nat × Nat) → Option (Str × Nat)
  | [], _, _ => none
  | p :: ps, k, met => if ¬ p.1 < n then some ("side", k) else if ¬ p.2 < m then some ("mark", k) else if p ∈ met then some ("twice", k) else vn n m ps (k + 1) (met ++ [p])
def evenRows (g : Gate) : Bool := g.all fun r => decide (r.length = (g.headD []).length)
def verD : Option Gate → D
  | none => .tup [.str "text", .int 0]
  | some g => if evenRows g then (match vn (g.headD []).length g.length g.flatten 0 [] with
    | none => .tup [.str "told", gateD g]
    | some (w, k) => .tup [.str "gate", .str w, .int (k : Nat)]) else .tup [.str "gate", .str "form", .int 0]
end Tx
set_option Elab.async false
set_option linter.all false
set_option maxHeartbeats 1000000
set_option maxRecDepth 100000
/-! Pu1: k09: numbers, a word, the table with rows that are lists -/
namespace Pu
open PySem PySem.Spec L2 Dn Pn Qn Tx TL Pt
section
variable {P P' P1 P2 : Qn.PE} {w t : Str} {ma mb : DE} {i j k n : Nat} {f f' : Fr} {E : Dn.Env} {S g : Store} {o : Option Nat} {c : Cell}
noncomputable def FLN : DF := trimF (dDef 1 2 K09.den__law_number)
theorem sok1 {cc : Nat} (hs : Sok w) (h : cc ∈ tl w) : Sok (⟨#[cc]⟩ : Str) := fun d hd => by
  have : d = cc := by simpa using hd
  subst this
  exact hs _ h
theorem sok_num (n : Nat) : Sok (numS n) := fun c hc => by
  have : c ∈ tl (numS n) := hc
  rw [tl_numS] at this
  have := numL_digits n c this
  omega
theorem t_intBb {b : Bool} : ∀ S, bIntB [.bl b] S = .ok (.int (if b then 1 else 0)) S := fun _ => rfl
theorem t_notSign {cc : Nat} {a : Str} : ∀ S, vIn true (.str ⟨#[cc]⟩) (.str a) S = .ok (.bl (!decide (cc ∈ a.cps.toList))) S := fun S => rfl
theorem lnum_ok (hs : Sok w) (hl : w.length ≤ 900000) : OpF [] FLN [.str w] (optI (numOf w)) := by
  have c1 : ExB (nP w) (dTNot (dTest (dChain vLe vLe (dC (.int 1)) (dCall bLen (aCons (dVar 0) aNil)) (dC (.int 6))))) (!(decide ((1 : Int) ≤ (w.length : Nat)) && decide (((w.length : Nat) : Int) ≤ 6))) (nP w) :=
    .not (.test (.chain (.con _) (.lenS (.var rfl) (sl_ge _ (by omega))) (.con _)))
  have l := ExN.lcF (P := nP w) (l := tl w) (h := fun c => D.str ⟨#[c]⟩) (g := gNm 1) (ws := [1]) (vs := [1]) (tt := dTest (dBin (vIn true) (dVar 1) (dC (.str "0123456789")))) (te := dVar 1) (fun c => D.str ⟨#[c]⟩) (fun c => !decide (c ∈ FIG.cps.toList)) (It.str (.var (i := 0) rfl)) (by rw [← len_tl]; exact sl_ge _ (by omega)) trivial (fun v hv => hv) fun x hx =>
    ⟨_, Tg.nm 1 _, rfl, .test (.bin (.var rfl) (.con _) t_notSign), fun _ => .var rfl⟩
  have c2 := ExB.test (Pz.neNil (k := 0) l (fun x hx => by
    obtain ⟨cc, hcc, rfl⟩ := List.mem_map.mp hx
    exact .str (sok1 hs (List.mem_filter.mp hcc).1).ok) (by decide))
  have c := ExB.or c1 fun _ => c2
  have e1 : (decide ((1 : Int) ≤ (w.length : Nat)) && decide (((w.length : Nat) : Int) ≤ 6)) = (decide (0 < (tl w).length) && decide ((tl w).length ≤ 6)) := by
    rw [len_tl, Bool.eq_iff_iff]
    simp only [Bool.and_eq_true, decide_eq_true_eq]
    omega
  have e2 : (!(((tl w).filter fun c => !decide (c ∈ FIG.cps.toList)).map fun c => D.str ⟨#[c]⟩).isEmpty) = !digs (tl w) := by
    congr 1
    unfold digs
    rw [Bool.eq_iff_iff]
    simp only [List.isEmpty_iff, List.map_eq_nil_iff, List.filter_eq_nil_iff, List.all_eq_true]
    constructor
    · intro h c hc
      have := h c hc
      rw [← fig_mem]
      simpa using this
    · intro h c hc
      have := h c hc
      rw [← fig_mem] at this
      simpa using this
  rw [e1, e2] at c
  by_cases hA : (decide (0 < (tl w).length) && decide ((tl w).length ≤ 6)) = true
  · by_cases hB : digs (tl w) = true
    · rw [hA, hB] at c
      have hlen := (Bool.and_eq_true _ _ ▸ hA : _ ∧ _)
      have h0 : 0 < (tl w).length := of_decide_eq_true hlen.1
      have h6 : (tl w).length ≤ 6 := of_decide_eq_true hlen.2
      have hne : tl w ≠ [] := List.length_pos_iff.mp h0
      have hd := digs_ok.mp hB
      have hi : PySem.intText? w = some ((NumText.digitsVal (tl w) : Nat) : Int) := PySem.intText_digits hd hne (by rw [len_tl]; omega)
      have t_i : ∀ S, bIntB [.str w] S = .ok (.int ((NumText.digitsVal (tl w) : Nat) : Int)) S := fun S => by
        show bIntS [.str w] S = _
        unfold bIntS
        dsimp only
        rw [hi]
        dsimp only
        rw [if_pos (by rw [len_tl]; omega)]
      have ei : Ex (nP w) (dCall bIntB (aCons (dVar 0) aNil)) (.int ((NumText.digitsVal (tl w) : Nat) : Int)) (nP w) := .call (.one (.var rfl)) t_i
      have hv6 := val_lt6 hd h6
      have en : Ex (nP w) (dCall bIntB (aCons (dBin vNe (dVar 0) (dCall bStr (aCons (dCall bIntB (aCons (dVar 0) aNil)) aNil))) aNil)) (.int (if (!decide (w = numS (NumText.digitsVal (tl w)))) then 1 else 0)) (nP w) :=
        .call (.one (.bin (.var rfl) (.str ei (by omega)) (t_neS2 hs (sok_num _)))) t_intBb
      have ew : (w = numS (NumText.digitsVal (tl w))) ↔ ¬ ((tl w).head? = some 48 ∧ tl w ≠ [48]) := by
        rw [← canon hd hne]
        constructor
        · intro e
          have := congrArg tl e
          rw [tl_numS] at this
          exact this.symm
        · intro e
          exact ext_tl (by rw [tl_numS, e])
      by_cases hC : (tl w).head? = some 48 ∧ tl w ≠ [48]
      · have e : numOf w = none := by
          unfold numOf
          rw [hA, hB, decide_eq_true hC.1, decide_eq_false hC.2]
          rfl
        rw [decide_eq_false (fun z => (ew.mp z) hC)] at en
        rw [e]
        exact fn_data (P' := nP w) (vs := [.str w]) rfl (.seq (.ifF c .next) (.ret (.binH (ExN.hd (.lst (.two ei (.con _)) (show 2 ≤ sizeLine by decide))) en trivial (t_ixL (i := 1) rfl)))) rfl
      · have e : numOf w = some (NumText.digitsVal (tl w)) := by
          unfold numOf
          have : (decide ((tl w).head? = some 48) && !decide (tl w = [48])) = false := by
            rw [Bool.eq_false_iff]
            intro z
            simp only [Bool.and_eq_true, decide_eq_true_eq, Bool.not_eq_true', decide_eq_false_iff_not] at z
            exact hC z
          rw [hA, hB, this]
          rfl
        rw [decide_eq_true (ew.mpr hC)] at en
        rw [e]
        exact fn_data (P' := nP w) (vs := [.str w]) rfl (.seq (.ifF c .next) (.ret (.binH (ExN.hd (.lst (.two ei (.con _)) (show 2 ≤ sizeLine by decide))) en trivial (t_ixL (i := 0) rfl)))) rfl
    · have hB' : digs (tl w) = false := by simpa using hB
      rw [hA, hB'] at c
      have e : numOf w = none := by
        unfold numOf
        rw [hB', Bool.false_and, Bool.and_false]
        rfl
      rw [e]
      exact fn_data (P' := nP w) (vs := [.str w]) rfl (.seqL (.ifT c (.ret (.con _)))) rfl
  · have hA' : (decide (0 < (tl w).length) && decide ((tl w).length ≤ 6)) = false := by simpa using hA
    rw [hA'] at c
    have e : numOf w = none := by
      unfold numOf
      rw [hA', Bool.false_and]
      rfl
    rw [e]
    exact fn_data (P' := nP w) (vs := [.str w]) rfl (.seqL (.ifT c (.ret (.con _)))) rfl
end
end Pu
set_option Elab.async false
set_option linter.all false
set_option maxHeartbeats 1000000
set_option maxRecDepth 100000
/-! Pu2: k09: the table -/
namespace Pu
open PySem PySem.Spec L2 Dn Pn Qn Tx TL Pt
section
variable {P P' P1 P2 : Qn.PE} {w t part : Str} {ma mb : DE} {i j k n : Nat} {f f' : Fr} {E : Dn.Env} {S g : Store} {o o' : Option Nat} {c c1 : Cell} {x2 x3 x4 x5 : PV} {ps : List D}
theorem _root_.Qn.Sd.donate [KF] (t : Sd f P E S) (hP : P[i]? = some (.c o c)) (e1 : E[i]? = some (some (.ref n))) : f n = none ∧ Sd (f.add n c) (P.set i .any) E S := by
  obtain ⟨n', a1, e2, e3, _⟩ := t.cell hP
  rw [e1] at a1
  cases a1
  refine ⟨e3, ?_⟩
  have t1 := t.forget i
  refine ⟨t1.len, fun k d e => ?_, fun j p e => ?_, t1.sep, fun k d e => by rw [Fr.add_ne f (fun z => by rw [z] at e; rw [t.kn _ _ e] at e3; cases e3)]; exact t.kn k d e⟩
  · by_cases q : k = n
    · subst q; rw [Fr.add_same] at e; cases e; exact e2
    · rw [Fr.add_ne f q] at e; exact t1.fr k d e
  · have q := t1.at_ j p e
    cases p with
    | any => trivial
    | d v => exact q
    | c o' c'' =>
      obtain ⟨r, a, b, d⟩ := q
      refine ⟨r, a, b, ?_, d.2⟩
      rcases getS e with ⟨_, z, _⟩ | ⟨hne, e⟩
      · cases z
      · rw [Fr.add_ne f (fun z => hne (t.sep i j _ _ _ _ n hP e e1 (by rw [a, z])))]
        exact d.1
/-- x.append(y), y a slot's cell: it is known by its number, and no slot's -/
theorem appendRow [KF] {xs : List D} (s : Sd f P E S) (hj : P[j]? = some (.c o (.lst xs))) (hi : P[i]? = some (.c o' c)) (hij : j ≠ i) (hl : xs.length < sizeLine) :
    ∃ n S', dDrop (dMeth "list" mAppend (dVar j) (aCons (dVar i) aNil)) E S = .nx E S' ∧ f n = none ∧ Sd (f.add n c) ((P.set j (.c o (.lst (xs ++ [.ref n])))).set i .any) E S' := by
  obtain ⟨n1, a1, a2, _⟩ := s.cell hj
  obtain ⟨n3, b1, b2, _⟩ := s.cell hi
  have s1 := s.write hj a1 (.lst (xs ++ [.ref n3]))
  obtain ⟨d1, d2⟩ := s1.donate (i := i) (o := o') (c := c) (by rw [List.getElem?_set_ne hij]; exact hi) b1
  refine ⟨n3, _, ?_, d1, d2⟩
  have hv : dVar j E S = .ok (.ref n1) S := by unfold dVar; rw [a1]
  have hv3 : dVar i E S = .ok (.ref n3) S := by unfold dVar; rw [b1]
  rw [e_drop, e_meth, hv, Dn.R.bind_ok, recvL a2, if_pos rfl, e_acons, hv3, Dn.R.bind_ok, e_anil, Dn.R.bind_ok, Dn.R.bind_ok]
  unfold mAppend
  dsimp only
  rw [a2]
  dsimp only
  rw [if_pos hl, R.toS_ok]
def TP (t : Str) (c1 : Cell) (part : Str) (ps : List D) (x4 x5 : PV) : Qn.PE := [.d (.str t), .c none c1, .d (.str part), .c none (.lst ps), x4, x5, .any]
def any7 : Qn.PE := List.replicate 7 .any
noncomputable def wordD : DS := (dSeq (dAsg (dLc (iVal (dMeth "str" mSplit (dVar 4) (aCons (dC (.str ".")) aNil))) (gNm 6) dYes (dCall FLN (aCons (dVar 6) aNil)) [6]) (gNm 5)) (dSeq (dIf (dTOr (dTest (dBin vNe (dCall bLen (aCons (dVar 5) aNil)) (dC (.int 2)))) (dTest (dBin (vIn false) (dC .non) (dVar 5)))) (dRet (dC .non)) dNext) (dDrop (dMeth "list" mAppend (dVar 3) (aCons (dTup (aCons (dBin vIx (dVar 5) (dC (.int 0))) (aCons (dBin vIx (dVar 5) (dC (.int 1))) aNil))) aNil)))))
theorem word_ok (hs : Sok w) (hl : w.length ≤ 900000) (hp : ps.length < sizeLine) : (pairOf w = none ∧ QS (TP t c1 part ps (.d (.str w)) x5) wordD (.rt .non any7)) ∨ (∃ p, pairOf w = some p ∧ ∃ x5', QS (TP t c1 part ps (.d (.str w)) x5) wordD (.nx (TP t c1 part (ps ++ [pairD p]) (.d (.str w)) x5'))) := by
  obtain ⟨parts, hparts⟩ : ∃ parts, parts = Txt.split w (Str.ofString ".") := ⟨_, rfl⟩
  have hc : parts.length ≤ w.length + 1 := by rw [hparts]; exact split_count (by rw [tl_dot]; simp) kind_dot
  have hp' : ∀ z ∈ parts, Sok z ∧ z.length ≤ 900000 := fun z hz => by
    rw [hparts] at hz
    exact ⟨sok_part hs (by rw [tl_dot]; simp) kind_dot hz, Nat.le_trans (split_len (by rw [tl_dot]; simp) kind_dot hz) hl⟩
  have a1 : QS (TP t c1 part ps (.d (.str w)) x5) (dAsg (dLc (iVal (dMeth "str" mSplit (dVar 4) (aCons (dC (.str ".")) aNil))) (gNm 6) dYes (dCall FLN (aCons (dVar 6) aNil)) [6]) (gNm 5)) (.nx (TP t c1 part ps (.d (.str w)) (.c none (.lst ((parts.map numOf).map optI))))) := by
    have it : It (TP t c1 part ps (.d (.str w)) x5) (iVal (dMeth "str" mSplit (dVar 4) (aCons (dC (.str ".")) aNil))) (parts.map D.str) (TP t c1 part ps (.d (.str w)) x5) WT := by
      rw [hparts]
      exact It.new (ExN.split (.var rfl) (.con _) rfl (len_sl hl))
    have l := ExN.lc (l := parts) (h := D.str) (g := gNm 6) (ws := [6]) (vs := [6]) (te := dCall FLN (aCons (dVar 6) aNil)) (fun z => optI (numOf z)) it (sl_ge _ (by omega)) trivial (fun v hv => hv) fun z hz =>
      ⟨_, Tg.nm 6 _, .callF (.one (.var rfl)) (lnum_ok (hp' z hz).1 (hp' z hz).2), rfl⟩
    rw [List.map_map]
    exact .asgN l
  have tst : ∀ ns : List (Option Nat), ExB (TP t c1 part ps (.d (.str w)) (.c none (.lst (ns.map optI)))) (dTOr (dTest (dBin vNe (dCall bLen (aCons (dVar 5) aNil)) (dC (.int 2)))) (dTest (dBin (vIn false) (dC .non) (dVar 5)))) ((!decide ((((ns.map optI).length : Nat) : Int) = 2)) || ns.any (·.isNone)) (TP t c1 part ps (.d (.str w)) (.c none (.lst (ns.map optI)))) := fun ns =>
    .or (.test (.bin (.lenH (.var rfl) ⟨_, rfl⟩) (.con _) t_neI)) fun _ => .test (.binD (.con _) (.var rfl) ⟨_, rfl⟩ t_inNone)
  have bad : ∀ ns : List (Option Nat), parts.map numOf = ns → ((!decide ((((ns.map optI).length : Nat) : Int) = 2)) || ns.any (·.isNone)) = true → QS (TP t c1 part ps (.d (.str w)) x5) wordD (.rt .non any7) := fun ns e h => by
    rw [e] at a1
    have q := tst ns
    rw [h] at q
    exact QS.rtA (n := 7) (.seq a1 (.seqL (.ifT q (.ret (.con _)))))
  have fin : ∀ q, pairOf w = q → (q = none ∧ QS (TP t c1 part ps (.d (.str w)) x5) wordD (.rt .non any7)) ∨ (∃ p, q = some p ∧ ∃ x5', QS (TP t c1 part ps (.d (.str w)) x5) wordD (.nx (TP t c1 part (ps ++ [pairD p]) (.d (.str w)) x5'))) := fun q hq => by
    unfold pairOf at hq
    rw [← hparts] at hq
    have bad' := bad (parts.map numOf) rfl
    have tst' := tst (parts.map numOf)
    generalize parts.map numOf = ns at a1 hq bad' tst'
    match ns, hq with
    | [some a, some b], hq =>
      subst hq
      exact .inr ⟨(a, b), rfl, _, .seq a1 (.seq (.ifF tst' .next) (.append (j := 3) rfl (.tup2 (.binH (Hd.var (i := 5) rfl) (.con _) ⟨_, rfl⟩ (t_ixL (i := 0) rfl)) (.binH (Hd.var (i := 5) rfl) (.con _) ⟨_, rfl⟩ (t_ixL (i := 1) rfl))) rfl hp))⟩
    | [], hq => subst hq; exact .inl ⟨rfl, bad' rfl⟩
    | [none], hq => subst hq; exact .inl ⟨rfl, bad' rfl⟩
    | [some _], hq => subst hq; exact .inl ⟨rfl, bad' rfl⟩
    | [none, _], hq => subst hq; exact .inl ⟨rfl, bad' rfl⟩
    | [some _, none], hq => subst hq; exact .inl ⟨rfl, bad' rfl⟩
    | x1 :: x2 :: x3 :: r, hq =>
      have ho' : q = none := by rw [← hq]; cases x1 <;> cases x2 <;> rfl
      subst ho'
      refine .inl ⟨rfl, bad' ?_⟩
      rw [decide_eq_false (by simp; omega)]
      rfl
  exact fin _ rfl
theorem allSome_snoc {α : Type} {a : α} : ∀ {l : List (Option α)} {qs : List α}, allSome l = some qs → allSome (l ++ [some a]) = some (qs ++ [a])
  | [], qs, h => by
    have : qs = [] := (Option.some.inj h).symm
    subst this
    rfl
  | none :: _, _, h => by cases h
  | some b :: l, qs, h => by
    have h' : (allSome l).map (b :: ·) = some qs := h
    obtain ⟨q, h1, rfl⟩ := Option.map_eq_some_iff.mp h'
    show (allSome (l ++ [some a])).map _ = _
    rw [allSome_snoc h1]
    rfl
theorem allSome_len {α : Type} : ∀ {l : List (Option α)} {qs : List α}, allSome l = some qs → qs.length = l.length
  | [], qs, h => by
    have : qs = [] := (Option.some.inj h).symm
    subst this
    rfl
  | none :: _, _, h => by cases h
  | some b :: l, qs, h => by
    have h' : (allSome l).map (b :: ·) = some qs := h
    obtain ⟨q, h1, rfl⟩ := Option.map_eq_some_iff.mp h'
    simp [allSome_len h1]
/-- a row -/
theorem row_ok (hs : Sok part) (hl : part.length ≤ 900000) : ∃ o, ((rowOf part = none ∧ o = .rt .non any7) ∨ (∃ qs x4 x5, rowOf part = some qs ∧ o = .nx (TP t c1 part (qs.map pairD) x4 x5))) ∧
    QS (TP t c1 part [] x4 x5) (dFor (iVal (dMeth "str" mSplit (dVar 2) (aCons (dC (.str " ")) aNil))) (gNm 4) wordD) o := by
  obtain ⟨ws, hws⟩ : ∃ ws, ws = Txt.split part (Str.ofString " ") := ⟨_, rfl⟩
  have hc : ws.length ≤ part.length + 1 := by rw [hws]; exact split_count (by rw [tl_sp]; simp) kind_sp
  have hp' : ∀ z ∈ ws, Sok z ∧ z.length ≤ 900000 := fun z hz => by
    rw [hws] at hz
    exact ⟨sok_part hs (by rw [tl_sp]; simp) kind_sp hz, Nat.le_trans (split_len (by rw [tl_sp]; simp) kind_sp hz) hl⟩
  have it : It (TP t c1 part [] x4 x5) (iVal (dMeth "str" mSplit (dVar 2) (aCons (dC (.str " ")) aNil))) (ws.map D.str) (TP t c1 part [] x4 x5) WT := by
    rw [hws]
    exact It.new (ExN.split (.var rfl) (.con _) rfl (len_sl hl))
  have er : rowOf part = allSome (ws.map pairOf) := by unfold rowOf; rw [hws]
  exact QS.forP (fun r P => ∃ qs x4 x5, allSome ((ws.map pairOf).take r) = some qs ∧ P = TP t c1 part (qs.map pairD) x4 x5) (fun o => (rowOf part = none ∧ o = .rt .non any7) ∨ (∃ qs x4 x5, rowOf part = some qs ∧ o = .nx (TP t c1 part (qs.map pairD) x4 x5))) it ⟨[], x4, x5, rfl, rfl⟩ (fun _ _ _ => trivial) (by
    rintro P ⟨qs, x4, x5, h, rfl⟩
    rw [List.length_map, ← List.length_map (f := pairOf) (as := ws), List.take_length] at h
    exact .inr ⟨qs, x4, x5, by rw [er, h], rfl⟩) (by
    rintro r x P hx ⟨qs, x4, x5, h, rfl⟩
    rw [List.getElem?_map] at hx
    obtain ⟨w, hw, rfl⟩ := Option.map_eq_some_iff.mp hx
    have hr : r < ws.length := (List.getElem?_eq_some_iff.mp hw).1
    have hq := allSome_len h
    rw [List.length_take, List.length_map] at hq
    obtain ⟨hsw, hlw⟩ := hp' w (List.mem_of_getElem? hw)
    refine ⟨[4], _, Tg.nm 4 _, ?_⟩
    rcases word_ok (t := t) (c1 := c1) (part := part) (ps := qs.map pairD) (x5 := x5) hsw hlw (lt_sl (by rw [List.length_map]; omega)) with ⟨h1, h2⟩ | ⟨p, h1, x5', h2⟩
    · refine ⟨_, h2, .inl ⟨?_, rfl⟩⟩
      rw [er]
      exact allSome_none (List.mem_map.mpr ⟨w, List.mem_of_getElem? hw, h1⟩)
    · refine ⟨_, h2, qs ++ [p], _, _, ?_, by rw [List.map_append]; rfl⟩
      have e2 : (ws.map pairOf).take (r + 1) = (ws.map pairOf).take r ++ [some p] := by
        rw [List.take_add_one, List.getElem?_map, hw]
        simp [h1]
      rw [e2]
      exact allSome_snoc h)
noncomputable def bodyT : DS := (dSeq (dAsg (dLst aNil) (gNm 3)) (dSeq (dFor (iVal (dMeth "str" mSplit (dVar 2) (aCons (dC (.str " ")) aNil))) (gNm 4) wordD) (dDrop (dMeth "list" mAppend (dVar 1) (aCons (dVar 3) aNil)))))
abbrev RZ := Nat × List (Nat × Nat)
def refD (z : RZ) : D := .ref z.1
def TQ (t : Str) (zs : List RZ) (x2 x3 x4 x5 : PV) : Qn.PE := [.d (.str t), .c none (.lst (zs.map refD)), x2, x3, x4, x5, .any]
theorem tab_loop : ∀ (parts : List Str), (∀ z ∈ parts, Sok z ∧ z.length ≤ 900000) → ∀ (zs : List RZ) (f : Fr) (E : Dn.Env) (S : Store) (x2 x3 x4 x5 : PV), Sd f (TQ t zs x2 x3 x4 x5) E S → zs.length + parts.length ≤ 1000000 → ∀ chk : Store → Bool, (∀ f' P E S, Sub f f' → Sd f' P E S → chk S = true) →
    (allSome (parts.map rowOf) = none ∧ ∃ S' f' E', forL chk (gNm 2) bodyT (parts.map D.str) E S = .rt .non S' ∧ Sub f f' ∧ Sd f' any7 E' S') ∨
    (∃ more : List RZ, allSome (parts.map rowOf) = some (more.map (·.2)) ∧ ∃ E' S' f' x2 x3 x4 x5, forL chk (gNm 2) bodyT (parts.map D.str) E S = .nx E' S' ∧ Sub f f' ∧ (∀ z ∈ more, f z.1 = none ∧ f' z.1 = some (.lst (z.2.map pairD))) ∧ Sd f' (TQ t (zs ++ more) x2 x3 x4 x5) E' S')
  | [], _, zs, f, E, S, x2, x3, x4, x5, s, _, chk, hc => .inr ⟨[], rfl, E, S, f, x2, x3, x4, x5, by unfold forL; rw [List.map_nil]; dsimp only; rw [if_pos (hc f _ E S (Sub.refl f) s)], Sub.refl f, (fun z h => by cases h), by rw [List.append_nil]; exact s⟩
  | part :: parts, hp, zs, f, E, S, x2, x3, x4, x5, s, hl, chk, hc => by
    obtain ⟨hs1, hl1⟩ := hp part (List.mem_cons_self ..)
    have s0 := s.setD 2 (.str part)
    obtain ⟨o, ho, hq⟩ := row_ok (t := t) (part := part) (c1 := .lst (zs.map refD)) (x4 := x4) (x5 := x5) hs1 hl1
    have q1 : QS [.d (.str t), .c none (.lst (zs.map refD)), .d (.str part), x3, x4, x5, .any] (dSeq (dAsg (dLst aNil) (gNm 3)) (dFor (iVal (dMeth "str" mSplit (dVar 2) (aCons (dC (.str " ")) aNil))) (gNm 4) wordD)) o := .seq (P1 := TP t (.lst (zs.map refD)) part [] x4 x5) (.asgN .nil) hq
    have ft := q1 f _ _ s0
    have e0 : forL chk (gNm 2) bodyT ((part :: parts).map D.str) E S = (match bodyT (E.set 2 (some (.str part))) S with
      | .nx env2 st2 => forL chk (gNm 2) bodyT (parts.map D.str) env2 st2
      | .ct env2 st2 => forL chk (gNm 2) bodyT (parts.map D.str) env2 st2
      | .bk env2 st2 => .nx env2 st2
      | r => r) := by
      show (if chk S then _ else _) = _
      rw [if_pos (hc f _ E S (Sub.refl f) s)]
      rfl
    have eb : ∀ E S, bodyT E S = dSeq (dSeq (dAsg (dLst aNil) (gNm 3)) (dFor (iVal (dMeth "str" mSplit (dVar 2) (aCons (dC (.str " ")) aNil))) (gNm 4) wordD)) (dDrop (dMeth "list" mAppend (dVar 1) (aCons (dVar 3) aNil))) E S := fun E S => by
      unfold bodyT
      rw [e_seq, e_seq, e_seq]
      cases dAsg (dLst aNil) (gNm 3) E S <;> rfl
    rw [eb] at e0
    rcases ho with ⟨hn, rfl⟩ | ⟨qs, y4, y5, hsm, rfl⟩
    · left
      refine ⟨allSome_none (List.mem_map.mpr ⟨part, List.mem_cons_self .., hn⟩), ?_⟩
      cases hm : dSeq (dAsg (dLst aNil) (gNm 3)) (dFor (iVal (dMeth "str" mSplit (dVar 2) (aCons (dC (.str " ")) aNil))) (gNm 4) wordD) (E.set 2 (some (.str part))) S with
      | rt d S' =>
        rw [hm] at ft
        obtain ⟨rfl, E', t'⟩ := ft
        refine ⟨S', f, E', ?_, Sub.refl f, t'⟩
        rw [e0, e_seq, hm]
      | _ => rw [hm] at ft; exact ft.elim
    · cases hm : dSeq (dAsg (dLst aNil) (gNm 3)) (dFor (iVal (dMeth "str" mSplit (dVar 2) (aCons (dC (.str " ")) aNil))) (gNm 4) wordD) (E.set 2 (some (.str part))) S with
      | nx E1 S1 =>
        rw [hm] at ft
        have s1 : Sd f (TP t (.lst (zs.map refD)) part (qs.map pairD) y4 y5) E1 S1 := ft
        obtain ⟨n, S2, e2, fn, s2⟩ := appendRow (j := 1) (i := 3) (xs := zs.map refD) s1 rfl rfl (by decide) (lt_sl (by rw [List.length_map]; simp at hl; omega))
        have s3 : Sd (f.add n (.lst (qs.map pairD))) (TQ t (zs ++ [(n, qs)]) (.d (.str part)) .any y4 y5) E1 S2 := by
          have : zs.map refD ++ [D.ref n] = (zs ++ [(n, qs)]).map refD := by simp [refD]
          rw [this] at s2
          exact s2
        have u1 : Sub f (f.add n (.lst (qs.map pairD))) := Sub.add fn
        have e3 : forL chk (gNm 2) bodyT ((part :: parts).map D.str) E S = forL chk (gNm 2) bodyT (parts.map D.str) E1 S2 := by
          rw [e0, e_seq, hm]
          dsimp only
          rw [e2]
        rcases tab_loop parts (fun z hz => hp z (List.mem_cons_of_mem _ hz)) (zs ++ [(n, qs)]) _ E1 S2 _ _ _ _ s3 (by simp at hl ⊢; omega) chk (fun f' P E S u t => hc f' P E S (u1.trans u) t) with ⟨h1, S', f', E', h2, h3, h4⟩ | ⟨more, h1, E', S', f', z2, z3, z4, z5, h2, h3, h4, h5⟩
        · left
          refine ⟨?_, S', f', E', e3.trans h2, u1.trans h3, h4⟩
          rw [List.map_cons, hsm]
          show (allSome (parts.map rowOf)).map _ = _
          rw [h1]
          rfl
        · right
          refine ⟨(n, qs) :: more, ?_, E', S', f', z2, z3, z4, z5, e3.trans h2, u1.trans h3, fun z hz => ?_, by rw [List.append_cons]; exact h5⟩
          · rw [List.map_cons, hsm]
            show (allSome (parts.map rowOf)).map _ = _
            rw [h1]
            rfl
          · rcases List.mem_cons.mp hz with rfl | hz
            · exact ⟨fn, h3 _ _ (Fr.add_same f)⟩
            · exact ⟨u1.none (h4 z hz).1, (h4 z hz).2⟩
      | _ => rw [hm] at ft; exact ft.elim
end
end Pu
set_option Elab.async false
set_option linter.all false
set_option maxHeartbeats 1000000
set_option maxRecDepth 100000
/-! Pu3: k09: the table's def, what is due -/
namespace Pu
open PySem PySem.Spec L2 Dn Pn Qn Tx TL Pt
section
variable {P P' P1 P2 : Qn.PE} {w t part : Str} {ma mb : DE} {i j k n r : Nat} {f f' : Fr} {E : Dn.Env} {S g : Store} {o o' : Option Nat} {c c1 : Cell} {x2 x3 x4 x5 : PV} {ps : List D} {zs : List RZ}
noncomputable def FLT : DF := dDef 1 7 (K09.den__law_table FLN)
theorem table_ok (hs : Sok t) (hl : t.length ≤ 900000) (S : Store) : (tabOf t = none ∧ ∃ g, FLT [.str t] S = .ok .non (S ++ g)) ∨
    (∃ (zs : List RZ) (r : Nat) (g : Store), tabOf t = some (zs.map (·.2)) ∧ FLT [.str t] S = .ok (.ref r) (S ++ g) ∧ S.length ≤ r ∧ (S ++ g)[r]? = some (.lst (zs.map refD)) ∧ ∀ z ∈ zs, S.length ≤ z.1 ∧ (S ++ g)[z.1]? = some (.lst (z.2.map pairD))) := by
  obtain ⟨parts, hparts⟩ : ∃ parts, parts = Txt.split t (Str.ofString " / ") := ⟨_, rfl⟩
  have hc : parts.length ≤ t.length + 1 := by rw [hparts]; exact split_count (by rw [tl_sl]; simp) kind_sl
  have hp : ∀ z ∈ parts, Sok z ∧ z.length ≤ 900000 := fun z hz => by
    rw [hparts] at hz
    exact ⟨sok_part hs (by rw [tl_sl]; simp) kind_sl hz, Nat.le_trans (split_len (by rw [tl_sl]; simp) kind_sl hz) hl⟩
  have et : tabOf t = allSome (parts.map rowOf) := by unfold tabOf; rw [hparts]
  have s0 := Sd.start (S := S) (xs := [.str t]) (Ps := [.d (.str t)]) ⟨rfl, trivial⟩ .nil 6
  obtain ⟨E0, hE0⟩ : ∃ E0, E0 = [D.str t].map some ++ List.replicate 6 none := ⟨_, rfl⟩
  rw [← hE0] at s0
  have a1 : QS ([.d (.str t)] ++ List.replicate 6 .any) (dAsg (dLst aNil) (gNm 1)) (.nx (TQ t [] .any .any .any .any)) := .asgN .nil
  have ft := a1 _ _ _ s0
  cases hm : dAsg (dLst aNil) (gNm 1) E0 S with
  | nx E1 S1 =>
    rw [hm] at ft
    have s1 : Sd (fOf S []) (TQ t [] .any .any .any .any) E1 S1 := ft
    have it : It (TQ t [] .any .any .any .any) (iVal (dMeth "str" mSplit (dVar 0) (aCons (dC (.str " / ")) aNil))) (parts.map D.str) (TQ t [] .any .any .any .any) WT := by
      rw [hparts]
      exact It.new (ExN.split (.var rfl) (.con _) rfl (len_sl hl))
    obtain ⟨S2, chk, f2, e2, s2, u2, hck⟩ := it _ _ _ s1
    have hchk : ∀ f' P E S, Sub f2 f' → Sd f' P E S → chk S = true := fun f' P E S u s => hck P E S trivial (s.weak u fun _ _ e => by cases e)
    have ef : dFor (iVal (dMeth "str" mSplit (dVar 0) (aCons (dC (.str " / ")) aNil))) (gNm 2) bodyT E1 S1 = forL chk (gNm 2) bodyT (parts.map D.str) E1 S2 := by rw [e_for, e2, R.toS_ok]
    have pre_of : ∀ {f' : Fr} {P : Qn.PE} {E : Dn.Env} {S' : Store}, Sub f2 f' → Sd f' P E S' → ∃ g, S' = S ++ g := fun {f' P E S'} u s => eq_pre fun j d hj => s.fr j d (u _ _ (u2 _ _ (by unfold fOf; rw [if_neg (by simp)]; exact hj)))
    have new_of : ∀ {f' : Fr} {n : Nat}, Sub f2 f' → f' n = none → S.length ≤ n := fun {f' n} u h => by
      by_cases z : n < S.length
      · have := u _ _ (u2 n S[n] (by unfold fOf; rw [if_neg (by simp)]; exact List.getElem?_eq_getElem z))
        rw [h] at this
        cases this
      · omega
    have den : ∀ E S, K09.den__law_table FLN E S = dSeq (dAsg (dLst aNil) (gNm 1)) (dSeq (dFor (iVal (dMeth "str" mSplit (dVar 0) (aCons (dC (.str " / ")) aNil))) (gNm 2) bodyT) (dRet (dVar 1))) E S := fun _ _ => rfl
    rcases tab_loop (t := t) parts hp [] f2 E1 S2 _ _ _ _ s2 (by simp; omega) chk hchk with ⟨h1, S', f', E', h2, h3, h4⟩ | ⟨more, h1, E', S', f', z2, z3, z4, z5, h2, h3, h4, h5⟩
    · obtain ⟨g, rfl⟩ := pre_of h3 h4
      refine .inl ⟨by rw [et, h1], g, dDef_rt rfl hE0.symm ?_⟩
      rw [den, e_seq, hm]
      dsimp only
      rw [e_seq, ef, h2]
    · obtain ⟨g, rfl⟩ := pre_of h3 h5
      obtain ⟨r, b1, b2, b3, _⟩ := h5.cell (i := 1) (o := none) (c := .lst (more.map refD)) rfl
      refine .inr ⟨more, r, g, by rw [et, h1], dDef_rt rfl hE0.symm ?_, new_of h3 b3, b2, fun z hz => ⟨?_, h5.fr _ _ (h4 z hz).2⟩⟩
      · have hv : dVar 1 E' (S ++ g) = .ok (.ref r) (S ++ g) := by unfold dVar; rw [b1]
        rw [den, e_seq, hm]
        dsimp only
        rw [e_seq, ef, h2]
        dsimp only
        rw [e_ret, hv, R.toS_ok]
      · exact new_of (Sub.refl f2) (h4 z hz).1
  | _ => rw [hm] at ft; exact ft.elim
/-! ### what is due: its parts, under known rows -/
section
variable [K : KF]
/-- the rows that are known: their numbers and what they hold -/
def Rows (r : Nat) (zs : List RZ) : Prop := KF.k r = some (.lst (zs.map refD)) ∧ ∀ z ∈ zs, KF.k z.1 = some (.lst (z.2.map pairD))
def uP (t : Str) (r : Nat) (ps : List (Nat × Nat)) (x3 x4 x5 x6 x7 : PV) : Qn.PE := [.d (.str t), .d (.ref r), .c none (.lst (ps.map pairD)), x3, x4, x5, x6, x7]
theorem row_toPy {S : Store} {m k : Nat} {ps : List (Nat × Nat)} (h : S[m]? = some (.lst (ps.map pairD))) : pyN S (k + 1) m = some (.list (ps.map pairP)) := by
  show (match S[m]? with
    | some (.lst xs) => (pyWs (pyN S k) xs).map PyData.list
    | some (.frz xs) => (pyWs (pyN S k) xs).map PyData.list
    | _ => none) = _
  rw [h]
  dsimp only
  rw [pyWs_map (h := pairP) pair_py]
  rfl
/-- a new list of known rows, asked whether it is empty -/
theorem neNilR {P P' : Qn.PE} {m : DE} {ys : List RZ} (h : ExN P m (.lst (ys.map refD)) P') (hk : ∀ z ∈ ys, KF.k z.1 = some (.lst (z.2.map pairD))) : Ex P (dBin vNe m (dLst aNil)) (.bl (!ys.isEmpty)) P' := fun f E S s => by
  obtain ⟨n, S1, e1, hn, s1⟩ := h f E S s
  obtain ⟨n2, S2, e2, hn2, s2⟩ := (ExN.nil (P := P')) (f.add n (.lst (ys.map refD))) E S1 s1
  have a1 : S2[n]? = some (.lst (ys.map refD)) := s2.fr n _ (by rw [Fr.add_ne _ (fun z => by rw [z, Fr.add_same] at hn2; cases hn2)]; exact Fr.add_same f)
  have a2 : S2[n2]? = some (.lst []) := s2.addc
  have s3 : Sd f P' E S2 := s2.weak ((Sub.add hn).trans (Sub.add hn2)) s.kn
  have b1 : pyWs (pyN S2 2) (ys.map refD) = some (ys.map fun z => .list (z.2.map pairP)) := by
    have : ∀ l : List RZ, (∀ z ∈ l, S2[z.1]? = some (.lst (z.2.map pairD))) → pyWs (pyN S2 2) (l.map refD) = some (l.map fun z => .list (z.2.map pairP)) := fun l => by
      induction l with
      | nil => exact fun _ => rfl
      | cons z l ih =>
        intro hz
        rw [List.map_cons, List.map_cons]
        have q : pyW (pyN S2 2) (refD z) = some (.list (z.2.map pairP)) := by
          show pyN S2 2 z.1 = _
          exact row_toPy (hz z (List.mem_cons_self ..))
        simp only [pyWs]
        rw [q, ih fun y hy => hz y (List.mem_cons_of_mem _ hy)]
        rfl
    exact this ys fun z hz => s3.known (hk z hz)
  refine ⟨S2, ?_, s3⟩
  rw [e_Bin, e1, Dn.R.bind_ok, e2, Dn.R.bind_ok]
  rw [vNe_of (toPy_lst a1 b1) (toPy_lst a2 (show pyWs (pyN S2 2) [] = some [] from rfl)) ((Ok.lst (k := 2) fun p hp => by
    obtain ⟨z, _, rfl⟩ := List.mem_map.mp hp
    exact pairs_ok z.2).shaped (by decide)) ((Ok.lst (k := 2) fun p hp => by cases hp).shaped (by decide))]
  congr 2
  cases ys <;> rfl
theorem hd_get {ys : List RZ} (h : ys ≠ []) : ∃ z, z ∈ ys ∧ (ys.map refD)[0]? = some (.ref z.1) ∧ (ys.map (·.2)).headD [] = z.2 := by
  cases ys with
  | nil => exact absurd rfl h
  | cons z ys => exact ⟨z, List.mem_cons_self .., rfl, rfl⟩
/-- len(rows[0]) -/
theorem len_first {P : Qn.PE} (hR : Rows r zs) (hne : zs ≠ []) (h1 : P[1]? = some (.d (.ref r))) : Ex P (dCall bLen (aCons (dBin vIx (dVar 1) (dC (.int 0))) aNil)) (.int (((zs.map (·.2)).headD []).length : Nat)) P := by
  obtain ⟨z, hz, e1, e2⟩ := hd_get hne
  have q := Ex.lenKn (P := P) (.ixKn (i := 0) (.var h1) (.con _) hR.1 e1) (hR.2 z hz)
  rw [List.length_map] at q
  rw [e2]
  exact q
theorem len_rows {P : Qn.PE} (hR : Rows r zs) (h1 : P[1]? = some (.d (.ref r))) : Ex P (dCall bLen (aCons (dVar 1) aNil)) (.int (zs.length : Nat)) P := by
  have q := Ex.lenKn (P := P) (.var h1) hR.1
  rw [List.length_map] at q
  exact q
end
end
end Pu
set_option Elab.async false
set_option linter.all false
set_option maxHeartbeats 1000000
set_option maxRecDepth 100000
/-! Pu4: k09: what is due of a text -/
namespace Pu
open PySem PySem.Spec L2 Dn Pn Qn Tx TL Pt
def loopB : DS := (dSeq (dAsg (dBin vIx (dLst (aCons (dC (.str "side")) (aCons (dBin vIx (dLst (aCons (dC (.str "mark")) (aCons (dC (.str "twice")) aNil))) (dCall bInt (aCons (dBin vLt (dVar 6) (dCall bLen (aCons (dVar 1) aNil))) aNil))) aNil))) (dCall bInt (aCons (dBin vLt (dVar 5) (dCall bLen (aCons (dBin vIx (dVar 1) (dC (.int 0))) aNil))) aNil))) (gNm 7)) (dIf (dTOr (dTest (dBin vNe (dVar 7) (dC (.str "twice")))) (dTest (dBin (vIn false) (dTup (aCons (dVar 5) (aCons (dVar 6) aNil))) (dSl (dVar 2) dNoPart (dPart (dVar 4)))))) (dRet (dTup (aCons (dC (.str "gate")) (aCons (dVar 7) (aCons (dVar 4) aNil))))) dNext))
def restD : DS := (dSeq (dIf (dTest (dBin vNe (dLc (iVal (dVar 1)) (gNm 3) (dTest (dBin vNe (dCall bLen (aCons (dVar 3) aNil)) (dCall bLen (aCons (dBin vIx (dVar 1) (dC (.int 0))) aNil)))) (dVar 3) [3]) (dLst aNil))) (dRet (dTup (aCons (dC (.str "gate")) (aCons (dC (.str "form")) (aCons (dC (.int 0)) aNil))))) dNext) (dSeq (dFor (iVal (dVar 1)) (gNm 3) (dDrop (dMeth "list" mExtend (dVar 2) (aCons (dVar 3) aNil)))) (dSeq (dFor (iEnumD (aCons (dVar 2) aNil)) (gTp 2 (gsCons (gNm 4) (gsCons (gTp 2 (gsCons (gNm 5) (gsCons (gNm 6) gsNil))) gsNil))) loopB) (dRet (dTup (aCons (dC (.str "told")) (aCons (dCall bTuple (aCons (dLc (iVal (dVar 1)) (gNm 3) dYes (dCall bTuple (aCons (dVar 3) aNil)) [3]) aNil)) aNil)))))))
def any8 : Qn.PE := List.replicate 8 .any
section
variable [K : KF] {P P' P1 P2 : Qn.PE} {w t part : Str} {ma mb mc : DE} {i j k n m r : Nat} {f f' : Fr} {E : Dn.Env} {S g : Store} {o o' : Option Nat} {c c1 : Cell} {x y : D} {x3 x4 x5 x6 x7 : PV} {ps : List (Nat × Nat)} {zs : List RZ} {p : Nat × Nat} {b : Bool}
/-- [x, y][int(b)] -/
theorem pick2 (ha : Ex P ma x P) (hb : Ex P mb y P) (hc : Ex P mc (.bl b) P) : Ex P (dBin vIx (dLst (aCons ma (aCons mb aNil))) (dCall bInt (aCons mc aNil))) (if b then y else x) P := by
  cases b with
  | true => exact .binH (ExN.hd (.lst (.two ha hb) (show 2 ≤ sizeLine by decide))) (.intB hc) trivial (t_ixL (i := 1) rfl)
  | false => exact .binH (ExN.hd (.lst (.two ha hb) (show 2 ≤ sizeLine by decide))) (.intB hc) trivial (t_ixL (i := 0) rfl)
theorem any_pairs (p : Nat × Nat) (l : List (Nat × Nat)) : anyEq (l.map pairP) (pairP p) = decide (p ∈ l) := by
  unfold anyEq
  rw [List.any_map, Bool.eq_iff_iff]
  simp only [List.any_eq_true, Function.comp, eqv_pair, decide_eq_true_eq]
  constructor
  · rintro ⟨q, hq, rfl⟩; exact hq
  · intro h; exact ⟨p, h, rfl⟩
theorem t_inPairs {l : List (Nat × Nat)} : ∀ S n, S[n]? = some (.lst (l.map pairD)) → vIn false (pairD p) (.ref n) S = .ok (.bl (decide (p ∈ l))) S := fun S n e => by
  unfold vIn
  dsimp only
  rw [e]
  dsimp only
  unfold vInSeq
  rw [show toPy S (pairD p) = some (pairP p) from pair_py p, pyWs_map (h := pairP) pair_py]
  dsimp only
  rw [(pair_ok p).shaped (by decide), (pairs_ok l).shaped (by decide), any_pairs]
  rfl
/-- xs[:r] of a slot's list -/
theorem slToK {xs : List D} {r : Nat} (hP : P[j]? = some (.c o (.lst xs))) (h : Ex P ma (.int (r : Nat)) P1) (hP1 : P1[j]? = some (.c o (.lst xs))) : ExN P (dSl (dVar j) dNoPart (dPart ma)) (.lst (xs.take r)) P1 := fun f E S t => by
  obtain ⟨n, e1, e2, _⟩ := t.cell hP
  obtain ⟨S1, e3, t1⟩ := h f E S t
  obtain ⟨n', e1', e4, _⟩ := t1.cell hP1
  rw [e1] at e1'
  cases e1'
  have hv : dVar j E S = .ok (.ref n) S := by unfold dVar; rw [e1]
  obtain ⟨t2, hn⟩ := t1.alloc (.lst (xs.take r))
  refine ⟨_, _, ?_, hn, t2⟩
  unfold dSl dPart dNoPart
  rw [hv, Dn.R.bind_ok, Dn.R.bind_ok, e3, Dn.R.bind_ok]
  dsimp only
  rw [Dn.R.bind_ok]
  unfold vSl
  dsimp only
  rw [e4]
  dsimp only
  rw [Pz.cut_to]
  rfl
def wd (n m : Nat) (p : Nat × Nat) : Str := if p.1 < n then (if p.2 < m then "twice" else "mark") else "side"
theorem vn_cons (rest : List (Nat × Nat)) (met : List (Nat × Nat)) : vn n m (p :: rest) k met = if wd n m p ≠ "twice" ∨ p ∈ met then some (wd n m p, k) else vn n m rest (k + 1) (met ++ [p]) := by
  rw [vn]
  unfold wd
  by_cases h1 : p.1 < n
  · by_cases h2 : p.2 < m
    · rw [if_neg (by simpa using h1), if_neg (by simpa using h2), if_pos h1, if_pos h2]
      by_cases h3 : p ∈ met
      · rw [if_pos h3, if_pos (.inr h3)]
      · rw [if_neg h3, if_neg (by simp [h3])]
    · rw [if_neg (by simpa using h1), if_pos (by simpa using h2), if_pos h1, if_neg h2, if_pos (.inl (by decide))]
  · rw [if_pos (by simpa using h1), if_neg h1, if_pos (.inl (by decide))]
theorem sok_wd : Sok (wd n m p) := by
  unfold wd
  split
  · split
    · exact sok_of "twice"
    · exact sok_of "mark"
  · exact sok_of "side"
def uN (t : Str) (r q : Nat) (ps : List (Nat × Nat)) (x3 x4 x5 x6 x7 : PV) : Qn.PE := [.d (.str t), .d (.ref r), .c (some q) (.lst (ps.map pairD)), x3, x4, x5, x6, x7]
def gateT (w : Str) (k : Nat) : D := .tup [.str "gate", .str w, .int (k : Nat)]
theorem loopB_ok {q : Nat} (hR : Rows r zs) (hne : zs ≠ []) (hk : k ≤ ps.length) : ∃ o, QS (uN t r q ps x3 (.d (.int (k : Nat))) (.d (.int (p.1 : Nat))) (.d (.int (p.2 : Nat))) x7) loopB o ∧
    ((wd ((zs.map (·.2)).headD []).length zs.length p ≠ "twice" ∨ p ∈ ps.take k) ∧ o = .rt (gateT (wd ((zs.map (·.2)).headD []).length zs.length p) k) any8 ∨ ¬ (wd ((zs.map (·.2)).headD []).length zs.length p ≠ "twice" ∨ p ∈ ps.take k) ∧ ∃ x7, o = .nx (uN t r q ps x3 (.d (.int (k : Nat))) (.d (.int (p.1 : Nat))) (.d (.int (p.2 : Nat))) x7)) := by
  obtain ⟨n, hn⟩ : ∃ n, n = ((zs.map (·.2)).headD []).length := ⟨_, rfl⟩
  rw [← hn]
  have l1 : ∀ {P : Qn.PE}, P[1]? = some (.d (.ref r)) → Ex P (dCall bLen (aCons (dBin vIx (dVar 1) (dC (.int 0))) aNil)) (.int (n : Nat)) P := fun h => by rw [hn]; exact len_first hR hne h
  obtain ⟨w, hw⟩ : ∃ w, w = wd n zs.length p := ⟨_, rfl⟩
  rw [← hw]
  have hsw : Sok w := by rw [hw]; exact sok_wd
  have a1 : QS (uN t r q ps x3 (.d (.int (k : Nat))) (.d (.int (p.1 : Nat))) (.d (.int (p.2 : Nat))) x7) (dAsg (dBin vIx (dLst (aCons (dC (.str "side")) (aCons (dBin vIx (dLst (aCons (dC (.str "mark")) (aCons (dC (.str "twice")) aNil))) (dCall bInt (aCons (dBin vLt (dVar 6) (dCall bLen (aCons (dVar 1) aNil))) aNil))) aNil))) (dCall bInt (aCons (dBin vLt (dVar 5) (dCall bLen (aCons (dBin vIx (dVar 1) (dC (.int 0))) aNil))) aNil))) (gNm 7)) (.nx (uN t r q ps x3 (.d (.int (k : Nat))) (.d (.int (p.1 : Nat))) (.d (.int (p.2 : Nat))) (.d (.str w)))) := by
    have z := pick2 (P := uN t r q ps x3 (.d (.int (k : Nat))) (.d (.int (p.1 : Nat))) (.d (.int (p.2 : Nat))) x7) (.con (.str "side")) (pick2 (.con (.str "mark")) (.con (.str "twice")) (.bin (.var (i := 6) rfl) (len_rows hR rfl) (t_cmp (p := fun i j => decide (i < j))))) (.bin (.var (i := 5) rfl) (l1 rfl) (t_cmp (p := fun i j => decide (i < j))))
    have e : (if decide (((p.1 : Nat) : Int) < (n : Nat)) = true then (if decide (((p.2 : Nat) : Int) < (zs.length : Nat)) = true then D.str "twice" else D.str "mark") else D.str "side") = D.str w := by
      rw [hw]
      unfold wd
      by_cases h1 : p.1 < n
      · rw [if_pos (by simpa using h1), if_pos h1]
        by_cases h2 : p.2 < zs.length
        · rw [if_pos (by simpa using h2), if_pos h2]
        · rw [if_neg (by simpa using h2), if_neg h2]
      · rw [if_neg (by simpa using h1), if_neg h1]
    rw [e] at z
    exact .asg z
  have tn : ExB (uN t r q ps x3 (.d (.int (k : Nat))) (.d (.int (p.1 : Nat))) (.d (.int (p.2 : Nat))) (.d (.str w))) (dTest (dBin vNe (dVar 7) (dC (.str "twice")))) (!decide (w = "twice")) (uN t r q ps x3 (.d (.int (k : Nat))) (.d (.int (p.1 : Nat))) (.d (.int (p.2 : Nat))) (.d (.str w))) := .test (.bin (.var (i := 7) rfl) (.con _) (t_neS2 hsw (sok_of "twice")))
  have ti : ExB (uN t r q ps x3 (.d (.int (k : Nat))) (.d (.int (p.1 : Nat))) (.d (.int (p.2 : Nat))) (.d (.str w))) (dTest (dBin (vIn false) (dTup (aCons (dVar 5) (aCons (dVar 6) aNil))) (dSl (dVar 2) dNoPart (dPart (dVar 4))))) (decide (p ∈ ps.take k)) (uN t r q ps x3 (.d (.int (k : Nat))) (.d (.int (p.1 : Nat))) (.d (.int (p.2 : Nat))) (.d (.str w))) := by
    have sl := slToK (P := uN t r q ps x3 (.d (.int (k : Nat))) (.d (.int (p.1 : Nat))) (.d (.int (p.2 : Nat))) (.d (.str w))) (j := 2) (r := k) rfl (.var (i := 4) rfl) rfl
    rw [← List.map_take] at sl
    exact .test (.binD (x := pairD p) (.tup2 (.var (i := 5) rfl) (.var (i := 6) rfl)) (ExN.hd sl) trivial t_inPairs)
  have tt := ExB.or tn fun _ => ti
  have rt : Ex (uN t r q ps x3 (.d (.int (k : Nat))) (.d (.int (p.1 : Nat))) (.d (.int (p.2 : Nat))) (.d (.str w))) (dTup (aCons (dC (.str "gate")) (aCons (dVar 7) (aCons (dVar 4) aNil)))) (gateT w k) (uN t r q ps x3 (.d (.int (k : Nat))) (.d (.int (p.1 : Nat))) (.d (.int (p.2 : Nat))) (.d (.str w))) := Ex.tup (.cons (.con _) (.two (.var (i := 7) rfl) (.var (i := 4) rfl))) (show 3 ≤ sizeLine by decide)
  by_cases h : w ≠ "twice" ∨ p ∈ ps.take k
  · have e : (!decide (w = "twice") || decide (p ∈ ps.take k)) = true := by simpa using h
    rw [e] at tt
    exact ⟨_, .seq a1 (QS.rtA (n := 8) (.ifT tt (.ret rt))), .inl ⟨h, rfl⟩⟩
  · have e : (!decide (w = "twice") || decide (p ∈ ps.take k)) = false := by
      rw [Bool.eq_false_iff]
      intro z
      exact h (by simpa using z)
    rw [e] at tt
    exact ⟨_, .seq a1 (.ifF tt .next), .inr ⟨h, _, rfl⟩⟩
theorem rest_ok (hR : Rows r zs) (hne : zs ≠ []) (hz : zs.length ≤ 900000) (hl : (zs.map (·.2)).flatten.length ≤ 900000) : QS (uP t r [] .any .any .any .any .any) restD (.rt (verD (some (zs.map (·.2)))) any8) := by
  obtain ⟨n, hn⟩ : ∃ n, n = ((zs.map (·.2)).headD []).length := ⟨_, rfl⟩
  have lf := ExN.lcF (P := uP t r [] .any .any .any .any .any) (l := zs) (h := refD) (g := gNm 3) (ws := [3]) (vs := [3]) (tt := dTest (dBin vNe (dCall bLen (aCons (dVar 3) aNil)) (dCall bLen (aCons (dBin vIx (dVar 1) (dC (.int 0))) aNil)))) (te := dVar 3) refD (fun z => !decide (((z.2.length : Nat) : Int) = (((zs.map (·.2)).headD []).length : Nat))) (It.lstKn (it := iVal (dVar 1)) (.var (i := 1) rfl) hR.1) (sl_ge _ (by omega)) trivial (fun v hv => hv) fun z hz => by
    have q := Ex.lenKn (P := [.d (.str t), .d (.ref r), .c none (.lst []), .d (.ref z.1), .any, .any, .any, .any]) (.var (i := 3) rfl) (hR.2 z hz)
    rw [List.length_map] at q
    exact ⟨_, Tg.nm 3 _, rfl, .test (.bin q (len_first hR hne rfl) t_neI), fun _ => .var rfl⟩
  have tst := ExB.test (neNilR lf fun z hz => hR.2 z (List.mem_filter.mp hz).1)
  have ev : (zs.filter fun z => !decide (((z.2.length : Nat) : Int) = (((zs.map (·.2)).headD []).length : Nat))).isEmpty = evenRows (zs.map (·.2)) := by
    unfold evenRows
    rw [Bool.eq_iff_iff]
    simp only [List.isEmpty_iff, List.filter_eq_nil_iff, List.all_eq_true, List.mem_map, decide_eq_true_eq]
    generalize ((zs.map (·.2)).headD []).length = L
    constructor
    · rintro h _ ⟨z, hz, rfl⟩
      have := h z hz
      simp at this
      omega
    · intro h z hz
      have := h _ ⟨z, hz, rfl⟩
      simp
      omega
  rw [ev] at tst
  cases hE : evenRows (zs.map (·.2)) with
  | false =>
    rw [hE] at tst
    have e : verD (some (zs.map (·.2))) = .tup [.str "gate", .str "form", .int 0] := by unfold verD; dsimp only; rw [hE]; rfl
    rw [e]
    exact QS.rtA (n := 8) (.seqL (.ifT tst (.ret (Ex.tup (.cons (.con _) (.two (.con _) (.con _))) (show 3 ≤ sizeLine by decide)))))
  | true =>
    rw [hE] at tst
    obtain ⟨ps, hps⟩ : ∃ ps, ps = (zs.map (·.2)).flatten := ⟨_, rfl⟩
    rw [← hps] at hl
    have fl : QS (uP t r [] .any .any .any .any .any) (dFor (iVal (dVar 1)) (gNm 3) (dDrop (dMeth "list" mExtend (dVar 2) (aCons (dVar 3) aNil)))) (.nx (uP t r ps .any .any .any .any .any)) := by
      have q := QS.forI (P := uP t r [] .any .any .any .any .any) (g := gNm 3) (s := dDrop (dMeth "list" mExtend (dVar 2) (aCons (dVar 3) aNil))) (fun i => uP t r ((zs.take i).map (·.2)).flatten .any .any .any .any .any) (It.lstKn (it := iVal (dVar 1)) (.var (i := 1) rfl) hR.1) (fun f E S t => t) (fun _ => trivial) fun i x hx => by
        rw [List.getElem?_map] at hx
        obtain ⟨z, hz', rfl⟩ := Option.map_eq_some_iff.mp hx
        have hzm := List.mem_of_getElem? hz'
        have et : ((zs.take (i + 1)).map (·.2)).flatten = ((zs.take i).map (·.2)).flatten ++ z.2 := by
          rw [List.take_add_one, hz']
          simp
        have hle : ((zs.take (i + 1)).map (·.2)).flatten.length ≤ ps.length := by
          rw [hps]
          have e2 : (zs.map (·.2)).flatten = ((zs.take (i + 1)).map (·.2)).flatten ++ ((zs.drop (i + 1)).map (·.2)).flatten := by
            rw [← List.flatten_append, ← List.map_append, List.take_append_drop]
          rw [e2, List.length_append]
          omega
        rw [et, List.length_append] at hle
        refine ⟨_, _, Tg.nm 3 _, _, .drop (Ex.extendKn (j := 2) (o := none) rfl (.var (i := 3) rfl) (hR.2 z hzm) rfl (sl_ge _ (by rw [List.length_map, List.length_map]; omega))), fun f E S t => ?_⟩
        have t2 := t.forget 3
        rw [← List.map_append, ← et] at t2
        exact t2
      rw [List.length_map, List.take_length, ← hps] at q
      exact q
    have vv : ∀ q : Nat, ∃ o, ((vn n zs.length ps 0 [] = none ∧ ∃ x4 x5 x6 x7, o = .nx (uN t r q ps .any x4 x5 x6 x7)) ∨ ∃ w k, vn n zs.length ps 0 [] = some (w, k) ∧ o = .rt (gateT w k) any8) ∧ QS (uN t r q ps .any .any .any .any .any) (dFor (iEnumD (aCons (dVar 2) aNil)) (gTp 2 (gsCons (gNm 4) (gsCons (gTp 2 (gsCons (gNm 5) (gsCons (gNm 6) gsNil))) gsNil))) loopB) o := fun q =>
      QS.forP (fun r' P => (∃ x4 x5 x6 x7, P = uN t r q ps .any x4 x5 x6 x7) ∧ vn n zs.length ps 0 [] = vn n zs.length (ps.drop r') r' (ps.take r')) (fun o => (vn n zs.length ps 0 [] = none ∧ ∃ x4 x5 x6 x7, o = .nx (uN t r q ps .any x4 x5 x6 x7)) ∨ ∃ w k, vn n zs.length ps 0 [] = some (w, k) ∧ o = .rt (gateT w k) any8) (It.enumOwn (j := 2) (n := q) rfl) ⟨⟨_, _, _, _, rfl⟩, by simp⟩ (by
        rintro i P ⟨⟨x4, x5, x6, x7, rfl⟩, _⟩
        rfl) (by
        rintro P ⟨⟨x4, x5, x6, x7, rfl⟩, hv⟩
        rw [enum_len, List.length_map, List.drop_length] at hv
        exact .inl ⟨hv, _, _, _, _, rfl⟩) (by
        rintro r' x P hx ⟨⟨x4, x5, x6, x7, rfl⟩, hv⟩
        obtain ⟨y, hy, rfl⟩ := enum_get hx
        obtain ⟨p, hp, rfl⟩ := map_get hy
        have hr : r' < ps.length := (List.getElem?_eq_some_iff.mp hp).1
        have ed : ps.drop r' = p :: ps.drop (r' + 1) := by
          rw [List.drop_eq_getElem_cons hr]
          congr 1
          rw [List.getElem?_eq_getElem hr] at hp
          exact Option.some.inj hp
        have et : ps.take (r' + 1) = ps.take r' ++ [p] := by rw [List.take_add_one, hp]; rfl
        refine ⟨[4, 5, 6], uN t r q ps .any (.d (.int (r' : Nat))) (.d (.int (p.1 : Nat))) (.d (.int (p.2 : Nat))) x7, Tg.tp (.cons (.nm 4 _) (.cons (ws' := []) (Tg.tp2 5 6 _ _) .nil)), ?_⟩
        obtain ⟨o, hq, ho⟩ := loopB_ok (k := r') (p := p) (ps := ps) (t := t) (x3 := .any) (x7 := x7) (q := q) hR hne (by omega)
        refine ⟨o, hq, ?_⟩
        rw [ed, vn_cons] at hv
        rw [← hn] at ho
        rcases ho with ⟨h1, rfl⟩ | ⟨h1, y7, rfl⟩
        · rw [if_pos h1] at hv
          exact .inr ⟨_, _, hv, rfl⟩
        · rw [if_neg h1] at hv
          exact ⟨⟨_, _, _, _, rfl⟩, by rw [hv, et]⟩)
    have gl : (zs.map (·.2)).length = zs.length := by rw [List.length_map]
    refine .seq (.ifF tst .next) (.seq fl (QS.name (i := 2) rfl fun q => ?_))
    obtain ⟨o, ho, hq⟩ := vv q
    rcases ho with ⟨hv, x4, x5, x6, x7, rfl⟩ | ⟨w, k, hv, rfl⟩
    · have e : verD (some (zs.map (·.2))) = .tup [.str "told", gateD (zs.map (·.2))] := by
        unfold verD
        dsimp only
        rw [hE, gl, ← hn, ← hps, hv]
        rfl
      rw [e]
      refine .seq hq (QS.rtA (P' := uN t r q ps .any x4 x5 x6 x7) (n := 8) (.ret (.tup2 (.con _) ?_)))
      have l := ExN.lc (P := uN t r q ps .any x4 x5 x6 x7) (l := zs) (h := refD) (g := gNm 3) (ws := [3]) (vs := [3]) (te := dCall bTuple (aCons (dVar 3) aNil)) (fun z => rowD z.2) (It.lstKn (it := iVal (dVar 1)) (.var (i := 1) rfl) hR.1) (sl_ge _ (by omega)) trivial (fun v hv => hv) fun z hz => ⟨_, Tg.nm 3 _, .tupleKn (.var rfl) (hR.2 z hz), rfl⟩
      have e3 : zs.map (fun z => rowD z.2) = (zs.map (·.2)).map rowD := by rw [List.map_map]; rfl
      rw [e3] at l
      exact Ex.tupleN l
    · have e : verD (some (zs.map (·.2))) = gateT w k := by
        unfold verD
        dsimp only
        rw [hE, gl, ← hn, ← hps, hv]
        rfl
      rw [e]
      exact .seqL hq
end
end Pu
set_option Elab.async false
set_option linter.all false
set_option maxHeartbeats 1000000
set_option maxRecDepth 100000
/-! Pu5: k09: due, told -/
namespace Pu
open PySem PySem.Spec L2 Dn Pn Qn Tx TL Pt
section
variable {P P' P1 P2 : Qn.PE} {w t part : Str} {ma mb mc : DE} {i j k n m r : Nat} {f f' : Fr} {E : Dn.Env} {S g : Store} {v : D} {zs : List RZ}
theorem words_len (w : Str) : (rowOf w).map (·.length) = none ∨ (rowOf w).map (·.length) = some (Txt.split w (Str.ofString " ")).length := by
  unfold rowOf
  cases h : allSome ((Txt.split w (Str.ofString " ")).map pairOf) with
  | none => exact .inl rfl
  | some qs =>
    right
    have := allSome_len h
    rw [List.length_map] at this
    rw [Option.map_some, this]
/-- how many pairs -/
theorem tab_size {g : Gate} (h : tabOf t = some g) : g.length ≤ t.length + 1 ∧ g.flatten.length ≤ t.length + 1 ∧ g ≠ [] ∧ ∀ r ∈ g, r ≠ [] := by
  obtain ⟨parts, hparts⟩ : ∃ parts, parts = Txt.split t (Str.ofString " / ") := ⟨_, rfl⟩
  have hb : bigS parts ≤ t.length + 1 := by rw [hparts]; exact bigS_split tl_sl kind_sl
  have hne : parts ≠ [] := by rw [hparts]; exact split_ne (by rw [tl_sl]; simp) kind_sl
  unfold tabOf at h
  rw [← hparts] at h
  have key : ∀ (parts : List Str) (g : Gate), allSome (parts.map rowOf) = some g → g.flatten.length ≤ bigS parts ∧ g.length = parts.length ∧ ∀ r ∈ g, r ≠ [] := fun parts => by
    induction parts with
    | nil =>
      intro g h
      have : g = [] := (Option.some.inj h).symm
      subst this
      exact ⟨Nat.zero_le _, rfl, fun r hr => by cases hr⟩
    | cons p parts ih =>
      intro g h
      cases hp : rowOf p with
      | none => rw [List.map_cons, hp] at h; cases h
      | some q =>
        rw [List.map_cons, hp] at h
        have h' : (allSome (parts.map rowOf)).map (q :: ·) = some g := h
        obtain ⟨g', h1, rfl⟩ := Option.map_eq_some_iff.mp h'
        obtain ⟨i1, i2, i3⟩ := ih g' h1
        have hq : q.length = (Txt.split p (Str.ofString " ")).length := by
          rcases words_len p with e | e
          · rw [hp] at e; cases e
          · rw [hp] at e; exact Option.some.inj e
        have hc : (Txt.split p (Str.ofString " ")).length ≤ p.length + 1 := split_count (by rw [tl_sp]; simp) kind_sp
        refine ⟨?_, by rw [List.length_cons, List.length_cons, i2], fun r hr => ?_⟩
        · rw [List.flatten_cons, List.length_append, bigS_cons]
          omega
        · rcases List.mem_cons.mp hr with rfl | hr
          · intro e
            have h0 := split_ne (x := p) (y := Str.ofString " ") (by rw [tl_sp]; simp) kind_sp
            rw [e] at hq
            exact h0 (List.length_eq_zero_iff.mp hq.symm)
          · exact i3 r hr
  obtain ⟨k1, k2, k3⟩ := key parts g h
  have := bigS_len parts
  refine ⟨by omega, by omega, fun e => hne ?_, k3⟩
  rw [e] at k2
  exact List.length_eq_zero_iff.mp k2.symm
theorem q2_ok [KF] (hR : Rows r zs) (hne : zs ≠ []) (hz : zs.length ≤ 900000) (hl : (zs.map (·.2)).flatten.length ≤ 900000) : QS [.d (.str t), .d (.ref r), .c none (.lst []), .any, .any, .any, .any, .any] (dSeq (dIf (dTest (dBin vIs (dVar 1) (dC .non))) (dRet (dTup (aCons (dC (.str "text")) (aCons (dC (.int 0)) aNil)))) dNext) restD) (.rt (verD (some (zs.map (·.2)))) any8) :=
  .seq (.ifF (.test (.bin (z := .bl false) (.var (i := 1) rfl) (.con _) fun _ => rfl)) .next) (rest_ok hR hne hz hl)
noncomputable def FDue9 : DF := trimF (dDef 1 8 (K09.den__law_due FLT))
def uP0 (t : Str) : Qn.PE := [.d (.str t), .any, .any, .any, .any, .any, .any, .any]
theorem due_ok (hs : Sok t) (hl : t.length ≤ 800000) : OpF [] FDue9 [.str t] (verD (tabOf t)) := by
  have hlt : D.lt 0 (verD (tabOf t)) = true := by
    cases tabOf t with
    | none => rfl
    | some g =>
      unfold verD
      dsimp only
      split
      · split
        · simp [D.lt, D.lts, Pz.Da.lt (Da.gate g)]
        · rfl
      · rfl
  refine fn_data (P' := any8) (vs := [.str t]) rfl ?_ hlt
  show QS (uP0 t) _ _
  intro f E S s
  have hv0 : ∀ S, dVar 0 E S = .ok (.str t) S := fun S => by unfold dVar; rw [s.data (i := 0) (v := .str t) rfl]
  have first : ∀ {v : D} {g : Store}, FLT [.str t] S = .ok v (S ++ g) → dAsg (dTup (aCons (dCall FLT (aCons (dVar 0) aNil)) (aCons (dLst aNil) aNil))) (gTp 2 (gsCons (gNm 1) (gsCons (gNm 2) gsNil))) E S = .nx ((E.set 1 (some v)).set 2 (some (.ref (S ++ g).length))) (S ++ g ++ [.lst []]) := fun {v g} h => by
    rw [e_asg, e_tup, e_acons, e_call, e_acons, hv0, Dn.R.bind_ok, e_anil, Dn.R.bind_ok, Dn.R.bind_ok, h, Dn.R.bind_ok, e_acons, e_lst, e_anil, Dn.R.bind_ok, mkLst_ok (Nat.zero_le _), Dn.R.bind_ok, e_anil, Dn.R.bind_ok, Dn.R.bind_ok, Dn.R.bind_ok, mkTup_ok (xs := [v, .ref (S ++ g).length]) (show 2 ≤ sizeLine by decide), R.toS_ok]
    rfl
  have den : K09.den__law_due FLT = dSeq (dAsg (dTup (aCons (dCall FLT (aCons (dVar 0) aNil)) (aCons (dLst aNil) aNil))) (gTp 2 (gsCons (gNm 1) (gsCons (gNm 2) gsNil)))) (dSeq (dIf (dTest (dBin vIs (dVar 1) (dC .non))) (dRet (dTup (aCons (dC (.str "text")) (aCons (dC (.int 0)) aNil)))) dNext) restD) := rfl
  rw [den, e_seq]
  rcases table_ok (t := t) hs (by omega) S with ⟨ht, g, e⟩ | ⟨zs, r, g, ht, e, hr, er, hz⟩
  · rw [first e]
    dsimp only
    have s1 := (s.grow g).setD 1 .non
    obtain ⟨s2, hn⟩ := s1.alloc (.lst [])
    have s3 := s2.take hn s1.kn 2
    have q : QS [.d (.str t), .d .non, .c none (.lst []), .any, .any, .any, .any, .any] (dSeq (dIf (dTest (dBin vIs (dVar 1) (dC .non))) (dRet (dTup (aCons (dC (.str "text")) (aCons (dC (.int 0)) aNil)))) dNext) restD) (.rt (.tup [.str "text", .int 0]) any8) :=
      QS.rtA (n := 8) (.seqL (.ifT (.test (.bin (z := .bl true) (.var (i := 1) rfl) (.con _) fun _ => rfl)) (.ret (.tup2 (.con _) (.con _)))))
    rw [ht]
    exact q _ _ _ s3
  · rw [first e]
    dsimp only
    obtain ⟨z1, z2, z3, z4⟩ := tab_size ht
    have s1 := s.learn g
    have hR : @Rows (kf0.more S (S ++ g)) r zs := by
      exact ⟨KF.more_new (K := kf0) hr er, fun z hz' => KF.more_new (K := kf0) (hz z hz').1 (hz z hz').2⟩
    have s2 := @Sd.setD (kf0.more S (S ++ g)) _ _ _ _ s1 1 (.ref r)
    obtain ⟨s3, hn⟩ := @Sd.alloc (kf0.more S (S ++ g)) _ _ _ _ s2 (.lst [])
    have s4 := @Sd.take (kf0.more S (S ++ g)) _ _ _ _ _ _ s3 hn (@Sd.kn (kf0.more S (S ++ g)) _ _ _ _ s2) 2
    have q2 := @q2_ok t r zs (kf0.more S (S ++ g)) hR (fun e => z3 (by rw [e]; rfl)) (by rw [List.length_map] at z1; omega) (by omega)
    rw [ht]
    exact Fits.unlearn (q2 _ _ _ s4) (Fr.sub_more s) fun _ _ e => by cases e
end
end Pu
set_option Elab.async false
set_option linter.all false
set_option maxHeartbeats 1000000
set_option maxRecDepth 100000
/-! Pu6: k09: read, told -/
namespace Pu
open PySem PySem.Spec L2 Dn Pn Qn Tx TL Pt Pz Dx
section
variable {P P' P1 P2 : Qn.PE} {w t part : Str} {ma mb mc : DE} {i j k n m r : Nat} {f f' : Fr} {E : Dn.Env} {S : Store} {v d : D} {g : Gate} {x : Xc}
/-! ### a table as one of whole numbers -/
/-! ### read, told -/
/-- (a, b), b raises -/
theorem _root_.Qn.XE.tup2 {x : Xc} {v : D} (ha : Ex P ma v P1) (hb : XE P1 mb x P2) : XE P (dTup (aCons ma (aCons mb aNil))) x P2 := fun f E S t => by
  obtain ⟨S1, e1, t1⟩ := ha f E S t
  obtain ⟨S2, e2, t2⟩ := hb f E S1 t1
  exact ⟨S2, by rw [e_tup, e_acons, e1, Dn.R.bind_ok, e_acons, e2]; rfl, t2⟩
end
end Pu
set_option Elab.async false
set_option linter.all false
set_option maxHeartbeats 1000000
set_option maxRecDepth 100000
/-! Pu7: k09: a word, a text spoilt -/
namespace Pu
open PySem PySem.Spec L2 Dn Pn Qn Tx TL Pt Pc
section
variable {P P' P1 P2 : Qn.PE} {w t part : Str} {ma mb mc : DE} {i j k n m r b : Nat} {f f' : Fr} {E : Dn.Env} {S : Store} {v d : D} {g : Gate} {x : Xc} {c c' : Cell} {o : Option Nat} {xs ys : List D} {ws vs : List Str} {da : DA}
def okW (w : Str) : Bool := decide (w.length ≤ 9) && w.cps.toList.all fun c => decide (c < 0x110000)
/-- a display of texts that are all right -/
inductive WL : DA → List Str → Prop
  | nil : WL aNil []
  | cons {w : Str} {a : DA} {ws : List Str} : okW w = true → WL a ws → WL (aCons (dC (.str w)) a) (w :: ws)
theorem WL.ex : ∀ {a : DA} {ws : List Str}, WL a ws → ExA P a (ws.map D.str) P
  | _, _, .nil => .nil
  | _, _, .cons _ t => .cons (.con _) t.ex
def WLn (a : DA) (n : Nat) : Prop := ∃ ws, WL a ws ∧ ws.length = n
theorem WLn.nil : WLn aNil 0 := ⟨_, .nil, rfl⟩
theorem WLn.cons {w : Str} {a : DA} {n : Nat} (h : okW w = true) : WLn a n → WLn (aCons (dC (.str w)) a) (n + 1) := fun ⟨_, h1, h2⟩ => ⟨_, .cons h h1, by rw [List.length_cons, h2]⟩
theorem t_catL (h : xs.length + ys.length ≤ sizeLine) : ∀ S n n', S[n]? = some (.lst xs) → S[n']? = some (.lst ys) → vAdd (.ref n) (.ref n') S = .ok (.ref S.length) (S ++ [.lst (xs ++ ys)]) := fun S n n' e e' => by
  unfold vAdd
  dsimp only
  unfold catLst
  rw [e, e']
  dsimp only
  rw [if_pos h]
  rfl
/-! ### lists and joins of what is drawn -/
theorem sok_joinS (h : ∀ w ∈ ws, Sok w) : Sok (Txt.join (Str.ofString " ") ws) := by
  rw [join_eq]
  exact sok_join (sok_of " ") h
/-- what a spoilt text is -/
def Sp (t : Str) (v : D) : Prop := ∃ t', v = .str t' ∧ Sok t' ∧ t'.length ≤ 4 * t.length + 40
theorem Sp.join (h : ∀ w ∈ ws, Sok w) (hl : bigS ws ≤ 4 * t.length + 40) : Sp t (.str (Txt.join (Str.ofString " ") ws)) := ⟨_, rfl, sok_joinS h, Nat.le_trans (join_sp_len ws) hl⟩
def SO9 (b : Nat) (t : Str) (o : Out) : Prop := ∃ v P' c', o = .rt v P' ∧ P'[0]? = some (.c (some b) c') ∧ D.lt 0 v = true ∧ c'.lt 0 = true ∧ (IsBox c' ∧ Sp t v)
theorem SO9.of {P : Qn.PE} (h : Sp t v) (h0 : P[0]? = some (.c (some b) c)) (hb : IsBox c) : SO9 b t (.rt v P) := by
  obtain ⟨t', rfl, h1, h2⟩ := h
  exact ⟨_, _, c, rfl, h0, rfl, hb.lt 0, hb, t', rfl, h1, h2⟩
end
end Pu
set_option Elab.async false
set_option linter.all false
set_option maxHeartbeats 1000000
set_option maxRecDepth 100000
/-! Pu8: k09's law -/
namespace Pu
open PySem PySem.Spec L2 Dn Pn Qn Tx TL Pt Pc
end Pu
set_option Elab.async false
set_option linter.all false
set_option maxRecDepth 100000
set_option maxHeartbeats 4000000
namespace K12
open PySem PySem.Spec L2 Dn
def c_GateError : Dx.ClsD := ⟨"GateError", [0], false⟩
def c_NoGate : Dx.ClsD := ⟨"NoGate", [1, 0], false⟩
def c_NoHall : Dx.ClsD := ⟨"NoHall", [2, 0], false⟩
def c_NoShowing : Dx.ClsD := ⟨"NoShowing", [3, 0], false⟩
def c_NoText : Dx.ClsD := ⟨"NoText", [4, 0], false⟩
def c_Far : Dx.ClsD := ⟨"Far", [5, 0], false⟩
def c_Wide : Dx.ClsD := ⟨"Wide", [6, 0], false⟩
def c_NoTurn : Dx.ClsD := ⟨"NoTurn", [7, 0], false⟩
def c_Broken : Dx.ClsD := ⟨"Broken", [8, 0], false⟩
def c_NoRow : Dx.ClsD := ⟨"NoRow", [9, 0], false⟩
def ct : List Dx.ClsD := [c_GateError, c_NoGate, c_NoHall, c_NoShowing, c_NoText, c_Far, c_Wide, c_NoTurn, c_Broken, c_NoRow]
/-! is_whole: 0 thing -/
/-! marks_of: 0 gate -/
/-! look_showing: 0 hall, 1 showing, 2 gates, 3 ways, 4 k, 5 name, 6 gate -/
/-! how_many: 0 hall, 1 gates, 2 ways, 3 found, 4 name, 5 gate -/
/-! number_of: 0 hall, 1 showing, 2 gates, 3 ways, 4 found, 5 name, 6 gate, 7 mark -/
/-! showing_at: 0 hall, 1 number, 2 gates, 3 ways, 4 found, 5 name, 6 gate, 7 mark -/
/-! _law_box: 0 _law_script, 1 _law_k, 2 _law_cell, 3 _law_seed -/
/-! _law_take: 0 _law_box_here, 1 _law_many, 2 _law_digit, 3 _law_one -/
/-! _law_alike: 0 _law_found, 1 _law_due_here, 2 _law_left, 3 _law_one, 4 _law_other -/
/-! _law_any_gate: 0 _law_box_here, 1 _law_sides, 2 _law_marks, 3 _law_left, 4 _law_found, 5 _law_mark, 6 _law_side -/
/-! _law_even_gate: 0 _law_box_here, 1 _law_sides, 2 _law_marks, 3 _law_on, 4 _law_more, 5 _law_alone, 6 _law_found, 7 _law_mark, 8 _law_row, 9 _law_side, 10 _law_shown -/
/-! _law_gate: 0 _law_box_here, 1 _law_sides, 2 _law_marks -/
/-! _law_names: 0 _law_box_here, 1 _law_many, 2 _law_words, 3 _law_letters, 4 _law_stem, 5 _law_spot, 6 _law_first, 7 _law_found, 8 _law_k -/
/-! _law_ends: 0 _law_gates, 1 _law_found, 2 _law_name, 3 _law_gate_here, 4 _law_side -/
/-! _law_joined: 0 _law_box_here, 1 _law_gates, 2 _law_least, 3 _law_left, 4 _law_ways, 5 _law_room, 6 _law_turn, 7 _law_one -/
/-! _law_hall: 0 _law_box_here, 1 _law_many, 2 _law_sides, 3 _law_marks, 4 _law_least, 5 _law_names_here, 6 _law_name -/
/-! _law_showing: 0 _law_box_here, 1 _law_hall_here, 2 _law_name, 3 _law_gate_here -/
/-! _law_due: 0 _law_hall_here, 1 _law_thing, 2 _law_at, 3 _law_name, 4 _law_gate_here, 5 _law_own -/
/-! _law_told: 0 _law_hall_here, 1 _law_thing, 2 _law_found, 3 e, 4 _law_strange -/
/-! _law_near: 0 _law_box_here, 1 _law_hall_here, 2 _law_showing_here, 3 _law_form, 4 _law_at, 5 _law_odd -/
/-! _law_number: 0 _law_hall_here, 1 _law_showing_here, 2 _law_found, 3 _law_worth, 4 _law_name, 5 _law_gate_here, 6 _law_mark -/
/-! _law_wide_hall: 0 _law_box_here, 1 _law_least, 2 _law_names_here, 3 _law_gates, 4 _law_k, 5 _law_name -/
/-! law: 0 _law_script, 1 _law_k, 2 _law_box_here, 3 _law_hall_here, 4 _law_showing_here, 5 _law_number_here, 6 _law_many, 7 _law_turn, 8 _law_thing, 9 _law_own, 10 _law_found, 11 _law_great, 12 _law_bare, 13 _law_letter -/
end K12
set_option Elab.async false
set_option linter.all false
set_option maxHeartbeats 1000000
set_option maxRecDepth 100000
/-! Pz9: a def that is not asked anything -/
namespace Pz
open PySem PySem.Spec PyProof.Rows L2 Dn
end Pz
set_option Elab.async false
set_option linter.all false
set_option maxHeartbeats 1000000
set_option maxRecDepth 100000
/-! Pv1: k12: calls that change the feed and give a new list; the names -/
namespace Pv
open PySem PySem.Spec L2 Dn Pn Qn TL Pt Pc Pu Pz
section
variable {P P' P1 P2 : Qn.PE} {ma mb mc : DE} {i j k n m r a : Nat} {f f' : Fr} {E : Dn.Env} {S : Store} {v d : D} {c c' c0 c1 : Cell} {o : Option Nat} {xs ys vs : List D} {da : DA} {R : D → Qn.PE → Prop} {Rc : Cell → Qn.PE → Prop}
/-- a def that changes the first one's cell and gives a new one -/
theorem fn_boxNE {m : DS} {Qs : List PV} {G : Cell → Cell → Prop} (hl : Qs.length + 1 = a) (hn : S[n]? = some c) (hx : ArgsP S xs Qs) (nd : (addrs (.c (some n) c :: Qs)).Nodup)
    (h : QE (.c (some n) c :: Qs ++ List.replicate (k - a) .any) m fun o => ∃ cz P' c', o = .rn cz P' ∧ P'[0]? = some (.c (some n) c') ∧ (∀ (i r : Nat) (d : Cell), Qs[i]? = some (.c (some r) d) → P'[i + 1]? = some (.c (some r) d)) ∧ G cz c') :
    ∃ cz c' r g, G cz c' ∧ dDef a k m (.ref n :: xs) S = .ok (.ref r) (S.set n c' ++ g) ∧ S.length ≤ r ∧ (S.set n c' ++ g)[r]? = some cz := by
  have hx' : ArgsP S (.ref n :: xs) (.c (some n) c :: Qs) := ⟨⟨rfl, hn⟩, hx⟩
  obtain ⟨o, ⟨cz, P', c', rfl, h0, hk, hG⟩, q⟩ := h _ _ _ (Sd.start hx' nd (k - a))
  have q2 : Fits (fOf S (addrs (.c (some n) c :: Qs))) (m ((D.ref n :: xs).map some ++ List.replicate (k - a) none) S) (.rn cz P') := q
  cases e : m ((D.ref n :: xs).map some ++ List.replicate (k - a) none) S with
  | rt d S' =>
    rw [e] at q2
    obtain ⟨r, E', rfl, hr, t⟩ := q2
    obtain ⟨n', a1, a2, a3, a4⟩ := t.cell h0
    obtain rfl := a4 n rfl
    have hnr : n' ≠ r := fun z => by rw [z, Fr.add_same] at a3; cases a3
    have back : ∀ (j : Nat) (d : Cell), j ≠ n' → S[j]? = some d → S'[j]? = some d ∧ j ≠ r := fun j d hne hj => by
      by_cases z : j ∈ addrs (.c (some n') c :: Qs)
      · have z' : j ∈ addrs Qs := (List.mem_cons.mp z).resolve_left hne
        obtain ⟨i, cc, hi⟩ := addrs_get z'
        obtain ⟨n2, b1, b2, b3, b4⟩ := t.cell (hk i j cc hi)
        obtain rfl := b4 j rfl
        obtain ⟨x, d1, d2⟩ := hx.get hi
        rw [d2.2] at hj
        cases hj
        exact ⟨b2, fun z => by rw [z, Fr.add_same] at b3; cases b3⟩
      · have hf : fOf S (addrs (.c (some n') c :: Qs)) j = some d := (if_neg z).trans hj
        have hne : j ≠ r := fun q => by rw [q, hr] at hf; cases hf
        exact ⟨t.fr j d (by rw [Fr.add_ne _ hne]; exact hf), hne⟩
    obtain ⟨g, rfl⟩ := eq_set (S := S) (S' := S') hn a2 fun j d hne hj => (back j d hne hj).1
    refine ⟨cz, c', r, g, hG, dDef_rt (by rw [hx'.len, List.length_cons, hl]) rfl e, ?_, t.addc⟩
    by_cases z : r < S.length
    · by_cases q : r = n'
      · exact absurd q.symm hnr
      · exact absurd rfl (back r S[r] q (List.getElem?_eq_getElem z)).2
    · omega
  | _ => rw [e] at q2; exact q2.elim
theorem EN.donate (hP : P[i]? = some (.c o c)) (hr : Rc c (P.set i .any)) : EN P (dVar i) Rc := fun f E S t => by
  obtain ⟨n, e1, e2, e3, e4⟩ := t.cell hP
  obtain ⟨q1, q2⟩ := t.donate hP e1
  exact ⟨c, _, n, S, hr, by unfold dVar; rw [e1], q1, q2⟩
end
end Pv
set_option Elab.async false
set_option linter.all false
set_option maxHeartbeats 1000000
set_option maxRecDepth 100000
/-! Qk2: known cells that are made while slots' cells change; a list of new cells -/
namespace Qn
open PySem PySem.Spec L2 Dn Pn
section
variable [K : KF] {f f' : Fr} {P P' P0 P1 P2 P3 : PE} {E : Dn.Env} {S g : Store} {i j n n1 n2 : Nat} {o : Option Nat} {c c' : Cell} {x y z v w : D} {m ma mb mc : DE} {da : DA} {xs ys vs : List D} {st st' : DS} {O : Out → Prop}
/-- x = e; .. where e tells a value and lets more of the store be known -/
theorem QE.learnF (h : ∀ f E S, Sd f P E S → ∃ v P' S' f', m E S = .ok v S' ∧ Sd f' P' E S' ∧ Sub f f' ∧ ∀ K' : KF, (∀ n c, f' n = some c → K'.k n = some c) → @QE K' (P'.set i (.d v)) st O) : QE P (dSeq (dAsg m (gNm i)) st) O := fun f E S s => by
  obtain ⟨v, P', S', f', e, t, u, q⟩ := h f E S s
  obtain ⟨o, ho, ft⟩ := q ⟨f'⟩ (fun _ _ e => e) f' (E.set i (some v)) S' (@Sd.setD ⟨f'⟩ _ _ _ _ (@Sd.high ⟨f'⟩ _ _ _ _ t.low fun _ _ e => e) i v)
  refine ⟨o, ho, ?_⟩
  have e2 : dAsg m (gNm i) E S = .nx (E.set i (some v)) S' := by rw [e_asg, e, R.toS_ok]; rfl
  rw [e_seq, e2]
  exact Fits.unlearn ft u s.kn
abbrev CZ := Nat × Cell
def zRef (z : CZ) : D := .ref z.1
/-- a comprehension whose items are new cells -/
theorem lc_refs {W : PE → Prop} {te : DE} {g : DG} {ws : List Nat} {chk : Store → Bool} (I : Nat → PE → Prop) (p : Nat → Cell → Prop) (hW : ∀ i P, I i P → W P) : ∀ (xs : List D) (i : Nat) (P : PE) (acc : List D) (f : Fr), I i P → acc.length + xs.length ≤ sizeLine → (∀ n c, KF.k n = some c → f n = some c) →
    (∀ f2, Sub f f2 → ∀ P2 E2 S2, W P2 → Sd f2 P2 E2 S2 → chk S2 = true) →
    (∀ r x P, xs[r]? = some x → I (i + r) P → ∃ P2, Tg ws P g x P2 ∧ EN P2 te fun c P3 => p (i + r) c ∧ I (i + r + 1) (wipeP P3 ws)) →
    ∀ E S, Sd f P E S → ∃ (zs : List CZ) (Q : PE) (f' : Fr) (S' : Store), zs.length = xs.length ∧ (∀ r z, zs[r]? = some z → p (i + r) z.2) ∧ I (i + xs.length) Q ∧ lcL chk g dYes te E xs acc S = .ok (acc ++ zs.map zRef) S' ∧ Sd f' Q E S' ∧ Sub f f' ∧ ∀ z ∈ zs, f' z.1 = some z.2
  | [], i, P, acc, f, h, _, hk, hc, _, E, S, t => ⟨[], P, f, S, rfl, (fun r z e => by cases e), h, by unfold lcL; rw [if_pos (hc f (Sub.refl f) P E S (hW _ _ h) t)]; simp, t, Sub.refl f, fun z hz => by cases hz⟩
  | x :: xs, i, P, acc, f, h, hl, hk, hc, hs, E, S, t => by
    obtain ⟨P2, tg, he⟩ := hs 0 x P rfl h
    obtain ⟨E1, S1, e1, t1, l1, a1⟩ := tg f E S t
    obtain ⟨c, P3, n, S2, ⟨hp, h3⟩, e2, hn, t2⟩ := he f E1 S1 t1
    have u1 := Sub.add (c := c) hn
    rw [List.length_cons] at hl
    obtain ⟨zs, Q, f', S', q1, q2, q3, e3, t3, u3, q4⟩ := lc_refs (te := te) (g := g) (ws := ws) (chk := chk) I p hW xs (i + 1) (wipeP P3 ws) (acc ++ [.ref n]) (f.add n c) h3 (by rw [List.length_append, List.length_singleton]; omega) (fun k d e => u1 k d (hk k d e))
      (fun f2 hf => hc f2 (u1.trans hf)) (fun r z P hz hi => by
        have := hs (r + 1) z P (by simpa using hz) (by rw [show i + (r + 1) = i + 1 + r by omega]; exact hi)
        rw [show i + (r + 1) + 1 = i + 1 + r + 1 by omega, show i + (r + 1) = i + 1 + r by omega] at this
        exact this) E S2 (t2.env l1.symm fun i hi => (a1 i hi).symm)
    refine ⟨(n, c) :: zs, Q, f', S', by rw [List.length_cons, List.length_cons, q1], fun r z hz => ?_, by rw [List.length_cons, show i + (xs.length + 1) = i + 1 + xs.length by omega]; exact q3, ?_, t3, u1.trans u3, fun z hz => ?_⟩
    · cases r with
      | zero => cases hz; exact hp
      | succ r =>
        have := q2 r z (by simpa using hz)
        rw [show i + 1 + r = i + (r + 1) by omega] at this
        exact this
    · unfold lcL
      rw [if_pos (hc f (Sub.refl f) P E S (hW _ _ h) t), e1]
      show (match te E1 S1 with
        | .ok y st3 => if acc.length < sizeLine then lcL chk g dYes te E xs (acc ++ [y]) st3 else .bad
        | _ => .bad) = _
      rw [e2]
      dsimp only
      rw [if_pos (by omega), e3, List.append_assoc]
      rfl
    · rcases List.mem_cons.mp hz with rfl | hz
      · exact u3 _ _ (Fr.add_same f)
      · exact q4 z hz
/-- x = [..]; .. where the items are new cells: they are known behind it -/
theorem QE.lcK {W : PE → Prop} {it : DI} {te : DE} {g : DG} {ws vs : List Nat} (I : Nat → PE → Prop) (p : Nat → Cell → Prop) (hi : It P it xs P1 W) (h0 : I 0 (wipeP P1 vs)) (hl : xs.length ≤ sizeLine) (hW : ∀ i P, I i P → W P)
    (step : ∀ r x P, xs[r]? = some x → I r P → ∃ P2, Tg ws P g x P2 ∧ EN P2 te fun c P3 => p r c ∧ I (r + 1) (wipeP P3 ws))
    (hq : ∀ (zs : List CZ) (Q : PE) (n : Nat) (K' : KF), zs.length = xs.length → (∀ r z, zs[r]? = some z → p r z.2) → I xs.length Q → K'.k n = some (.lst (zs.map zRef)) → (∀ z ∈ zs, K'.k z.1 = some z.2) → (∀ n c, K.k n = some c → K'.k n = some c) → @QE K' ((backP P1 Q vs).set i (.d (.ref n))) st O) :
    QE P (dSeq (dAsg (dLc it g dYes te vs) (gNm i)) st) O := QE.learnF fun f E S t => by
  obtain ⟨S1, chk, f0, e1, t1, u, hc⟩ := hi f E S t
  have hk0 : ∀ n c, K.k n = some c → f0 n = some c := fun n c e => u n c (t.kn n c e)
  obtain ⟨zs, Q, f', S2, q1, q2, q3, e2, t2, u2, q4⟩ := lc_refs (te := te) (g := g) (ws := ws) (chk := chk) I p hW xs 0 (wipeP P1 vs) [] f0 h0 (by simpa using hl) hk0 (fun f2 hf P2 E2 S2 hw s => hc P2 E2 S2 hw (s.weak hf hk0)) (by simpa using step) (dWipe E vs) S1 (t1.wipe vs)
  rw [Nat.zero_add] at q3
  have t3 : Sd f' (wipeP Q vs) E S2 := t2.env (dWipe_len vs).symm fun i hi => (dWipe_get vs i hi).symm
  have hk1 : ∀ n c, K.k n = some c → f' n = some c := fun n c e => u2 n c (hk0 n c e)
  have t4 := Sd.back (P := P1) t1 t3 vs fun v h => h
  obtain ⟨r1, r2⟩ := t4.newAt (g := [.lst (zs.map zRef)]) (n := S2.length) (c := .lst (zs.map zRef)) (Nat.le_refl _) (by simp)
  have ua := Sub.add (c := .lst (zs.map zRef)) r1
  refine ⟨.ref S2.length, _, _, f'.add S2.length (.lst (zs.map zRef)), ?_, r2, (u.trans u2).trans ua, fun K' hK' => hq zs Q S2.length K' q1 (fun r z hz => by have := q2 r z hz; rw [Nat.zero_add] at this; exact this) q3 (hK' _ _ (Fr.add_same f')) (fun z hz => hK' _ _ (ua _ _ (q4 z hz))) fun n c e => hK' _ _ (ua _ _ (hk1 n c e))⟩
  unfold dLc
  rw [e1, Dn.R.bind_ok]
  dsimp only
  rw [e2, Dn.R.bind_ok]
  rfl
end
end Qn
set_option Elab.async false
set_option linter.all false
set_option maxHeartbeats 1000000
set_option maxRecDepth 100000
/-! Pw1: k42: the feed, a list mixed -/
namespace Pw
open PySem PySem.Spec L2 Dn Pn Qn TL Pt Pc Pu Pz Pv
section
variable {P P' P1 P2 : Qn.PE} {ma mb mc : DE} {i j k n m r a b : Nat} {f f' : Fr} {E : Dn.Env} {S : Store} {v d : D} {c c' c0 c1 : Cell} {o : Option Nat} {xs ys vs : List D} {da : DA} {st : DS} {O : Out → Prop} {R : D → Qn.PE → Prop} {Rc : Cell → Qn.PE → Prop} {ns : List Int}
/-- a def of data that gives a new cell -/
theorem fn_newE {G : Cell → Prop} (hl : vs.length = a) (h : QE (vs.map .d ++ List.replicate (k - a) .any) st fun o => ∃ cz P', o = .rn cz P' ∧ G cz) (S : Store) :
    ∃ cz r g, G cz ∧ dDef a k st vs S = .ok (.ref r) (S ++ g) ∧ S.length ≤ r ∧ (S ++ g)[r]? = some cz := by
  obtain ⟨o, ⟨cz, P', rfl, hG⟩, q⟩ := h _ _ _ (Sd.start (S := S) (xs := vs) (Ps := vs.map .d) ArgsP.data (by rw [addrs_data]; exact .nil) (k - a))
  cases e : st (vs.map some ++ List.replicate (k - a) none) S with
  | rt d S' =>
    rw [e] at q
    obtain ⟨r, E', rfl, hr, t⟩ := q
    have back : ∀ (j : Nat) (d : Cell), S[j]? = some d → S'[j]? = some d ∧ j ≠ r := fun j d hj => by
      have hf : fOf S (addrs (vs.map .d)) j = some d := (if_neg (by rw [addrs_data]; exact fun z => by cases z)).trans hj
      have hne : j ≠ r := fun q => by rw [q, hr] at hf; cases hf
      exact ⟨t.fr j d (by rw [Fr.add_ne _ hne]; exact hf), hne⟩
    obtain ⟨g, rfl⟩ := eq_pre (S := S) (S' := S') fun j d hj => (back j d hj).1
    refine ⟨cz, r, g, hG, dDef_rt hl rfl e, ?_, t.addc⟩
    by_cases z : r < S.length
    · exact absurd rfl (back r S[r] (List.getElem?_eq_getElem z)).2
    · omega
  | _ => rw [e] at q; exact q.elim
def FFeed : DF := dDef 2 4 K42.den__law_feed
theorem t_ixScr {q : Nat} (h : q < ns.length) : ∃ z : Int, ∀ S, vIx (.scr ns) (.int (q : Nat)) S = .ok (.int z) S := by
  refine ⟨ns[q], fun S => ?_⟩
  unfold vIx
  dsimp only
  have e : atI ns ((q : Nat) : Int) = some ns[q] := by
    unfold atI
    rw [ixN_nat h]
    exact List.getElem?_eq_getElem h
  rw [e]
theorem feed_ok (hk : k ≤ 1000000) (hl : ns.length ≤ 1000000) (S : Store) : ∃ cz r g, IsBox cz ∧ FFeed [.scr ns, .int (k : Nat)] S = .ok (.ref r) (S ++ g) ∧ S.length ≤ r ∧ (S ++ g)[r]? = some cz := by
  refine fn_newE (vs := [.scr ns, .int (k : Nat)]) (a := 2) (k := 4) rfl ?_ S
  show QE [.d (.scr ns), .d (.int (k : Nat)), .any, .any] _ _
  unfold K42.den__law_feed
  obtain ⟨z0, e0⟩ : ∃ z0 : Int, Ex [.d (.scr ns), .d (.int (k : Nat)), .any, .any] (dBin vAdd (dBin vMul (dC (.int 9011)) (dVar 1)) (dC (.int 17))) (.int z0) [.d (.scr ns), .d (.int (k : Nat)), .any, .any] := ⟨_, .bin (.bin (.con _) (.var (i := 1) rfl) (t_mulL rfl)) (.con _) t_add⟩
  refine QE.seqS (P1 := [.d (.scr ns), .d (.int (k : Nat)), .d (.int z0), .any]) (.asg e0) ?_
  have hlen : Ex [.d (.scr ns), .d (.int (k : Nat)), .d (.int z0), .any] (dCall bLen (aCons (dVar 0) aNil)) (.int (ns.length : Nat)) [.d (.scr ns), .d (.int (k : Nat)), .d (.int z0), .any] := .call (.one (.var (i := 0) rfl)) fun S => rfl
  have cell : ∃ z1 : Int, QS [.d (.scr ns), .d (.int (k : Nat)), .d (.int z0), .any] (dIf (dTest (dBin vLt (dVar 1) (dCall bLen (aCons (dVar 0) aNil)))) (dAsg (dCall bAbs (aCons (dBin vIx (dVar 0) (dVar 1)) aNil)) (gNm 2)) (dIf (dTest (dBin vGt (dCall bLen (aCons (dVar 0) aNil)) (dC (.int 0)))) (dAsg (dBin vAdd (dVar 2) (dBin vMul (dBin vMod (dBin vIx (dVar 0) (dBin vMod (dVar 1) (dCall bLen (aCons (dVar 0) aNil)))) (dC (.int 2147483629))) (dC (.int 69623)))) (gNm 2)) dNext)) (.nx [.d (.scr ns), .d (.int (k : Nat)), .d (.int z1), .any]) := by
    have t1 := ExB.test (Ex.bin (.var (i := 1) rfl) hlen (t_cmp (p := fun i j => decide (i < j))))
    by_cases h : k < ns.length
    · rw [decide_eq_true (by omega)] at t1
      obtain ⟨z, e⟩ := t_ixScr (ns := ns) h
      exact ⟨_, .ifT t1 (.asg (.call (.one (.bin (.var (i := 0) rfl) (.var (i := 1) rfl) e)) fun S => rfl))⟩
    · rw [decide_eq_false (by omega)] at t1
      have t2 := ExB.test (Ex.bin hlen (.con (.int 0)) (t_cmp (p := fun i j => decide (j < i))))
      by_cases h2 : 0 < ns.length
      · rw [decide_eq_true (by omega)] at t2
        obtain ⟨z, e⟩ := t_ixScr (ns := ns) (Nat.mod_lt k h2)
        have em : Ex [.d (.scr ns), .d (.int (k : Nat)), .d (.int z0), .any] (dBin vMod (dVar 1) (dCall bLen (aCons (dVar 0) aNil))) (.int ((k % ns.length : Nat) : Int)) [.d (.scr ns), .d (.int (k : Nat)), .d (.int z0), .any] := by
          rw [Int.natCast_emod]
          exact .bin (.var (i := 1) rfl) hlen (t_mod (by omega))
        exact ⟨_, .ifF t1 (.ifT t2 (.asg (.bin (.var (i := 2) rfl) (.bin (.bin (.bin (.var (i := 0) rfl) em e) (.con _) (t_mod (by decide))) (.con _) (t_mulR rfl)) t_add)))⟩
      · rw [decide_eq_false (by omega)] at t2
        exact ⟨_, .ifF t1 (.ifF t2 .next)⟩
  obtain ⟨z1, e1⟩ := cell
  refine QE.seqS e1 ?_
  obtain ⟨z2, e2⟩ : ∃ z2 : Int, Ex [.d (.scr ns), .d (.int (k : Nat)), .d (.int z1), .any] (dBin vAdd (dBin vMod (dBin vAdd (dBin vAdd (dBin vMul (dBin vMod (dVar 2) (dC (.int 2147483629))) (dC (.int 48271))) (dBin vMul (dC (.int 40692)) (dVar 1))) (dC (.int 7))) (dC (.int 2147483629))) (dC (.int 1))) (.int z2) [.d (.scr ns), .d (.int (k : Nat)), .d (.int z1), .any] :=
    ⟨_, .bin (.bin (.bin (.bin (.bin (.bin (.var (i := 2) rfl) (.con _) (t_mod (by decide))) (.con _) (t_mulR rfl)) (.bin (.con _) (.var (i := 1) rfl) (t_mulL rfl)) t_add) (.con _) t_add) (.con _) (t_mod (by decide))) (.con _) t_add⟩
  refine QE.seqS (P1 := [.d (.scr ns), .d (.int (k : Nat)), .d (.int z1), .d (.int z2)]) (.asg e2) ?_
  have eb := Ex.bin (P := [.d (.scr ns), .d (.int (k : Nat)), .d (.int z1), .d (.int z2)]) (.var (i := 2) rfl) (Ex.bin (.con (.int 10)) (.con (.int 18)) (t := vPow) (z := .int (10 ^ 18)) fun S => rfl) (t_cmp (p := fun i j => decide (j ≤ i)))
  have ep := pick2 (.con (.int 0)) (.var (i := 2) rfl) eb
  refine QE.retN (EN.lst (ExA.ea (.cons ep (.two (.var (i := 3) rfl) (.con _))) ⟨le_sl (show 3 ≤ 1000 by decide), _, _, rfl, ?_⟩))
  split
  · exact ⟨z1, z2, 0, rfl⟩
  · exact ⟨0, z2, 0, rfl⟩
theorem feedE (hi : P[i]? = some (.d (.scr ns))) (hj : P[j]? = some (.d (.int (k : Nat)))) (hk : k ≤ 1000000) (hl : ns.length ≤ 1000000) (hr : ∀ c, IsBox c → Rc c P) : EN P (dCall FFeed (aCons (dVar i) (aCons (dVar j) aNil))) Rc :=
  EN.call (ExA.ea (.two (.var hi) (.var hj)) fun S => by
    obtain ⟨cz, r, g, hb, e⟩ := feed_ok hk hl S
    exact ⟨r, g, cz, hr cz hb, e⟩)
end
end Pw
set_option Elab.async false
set_option linter.all false
set_option maxHeartbeats 1000000
set_option maxRecDepth 100000
/-! Pw2: k42: a list mixed -/
namespace Pw
open PySem PySem.Spec L2 Dn Pn Qn TL Pt Pc Pu Pz Pv
section
variable [K : KF] {P P' P1 P2 : Qn.PE} {ma mb mc : DE} {i j k n m r a b : Nat} {f f' : Fr} {E : Dn.Env} {S : Store} {v d : D} {c c' c0 c1 : Cell} {o o2 : Option Nat} {xs ys vs : List D} {da : DA} {st : DS} {O : Out → Prop} {R : D → Qn.PE → Prop} {Rc : Cell → Qn.PE → Prop} {ns : List Int} {F : DF}
/-- a new list beside the feed, a new one given -/
theorem EN.boxedNL (hi : P[i]? = some (.c o c0)) (h : EN P mb fun c1 P1 => ∃ c, P1[i]? = some (.c o c) ∧ ∀ S n r, S[n]? = some c → S[r]? = some c1 → n ≠ r → ∃ cz c' q g, Rc cz (P1.set i (.c o c')) ∧ F [.ref n, .ref r] S = .ok (.ref q) (S.set n c' ++ g) ∧ S.length ≤ q ∧ (S.set n c' ++ g)[q]? = some cz) :
    EN P (dCall F (aCons (dVar i) (aCons mb aNil))) Rc := fun f E S st => by
  obtain ⟨n, e1, e2, _⟩ := st.cell hi
  obtain ⟨c1, P1, r, S1, ⟨c, hP, hF⟩, e3, hr, s1⟩ := h f E S st
  obtain ⟨n', e1', e5, e6, _⟩ := s1.cell hP
  rw [e1] at e1'
  cases e1'
  have hv : dVar i E S = .ok (.ref n) S := by unfold dVar; rw [e1]
  have hne : n ≠ r := fun z => by rw [z, Fr.add_same] at e6; cases e6
  obtain ⟨cz, c', q, g, rr, e7, hq, hz⟩ := hF _ _ _ e5 s1.addc hne
  obtain ⟨r1, r2⟩ := ((s1.write hP e1 c').unadd hr st.kn).newAt (by simpa using hq) hz
  exact ⟨cz, _, q, _, rr, by rw [e_call, e_acons, hv, Dn.R.bind_ok, e_acons, e3, Dn.R.bind_ok, e_anil, Dn.R.bind_ok, Dn.R.bind_ok, Dn.R.bind_ok, e7], r1, r2⟩
/-- .. of a slot's list -/
theorem EN.boxedNV (hi : P[i]? = some (.c o c)) (hj : P[j]? = some (.c o2 c1)) (hij : i ≠ j) (hF : ∀ S n r, S[n]? = some c → S[r]? = some c1 → n ≠ r → ∃ cz c' q g, Rc cz (P.set i (.c o c')) ∧ F [.ref n, .ref r] S = .ok (.ref q) (S.set n c' ++ g) ∧ S.length ≤ q ∧ (S.set n c' ++ g)[q]? = some cz) :
    EN P (dCall F (aCons (dVar i) (aCons (dVar j) aNil))) Rc := fun f E S st => by
  obtain ⟨n, e1, e2, _⟩ := st.cell hi
  obtain ⟨r, d1, d2, _⟩ := st.cell hj
  have hv : dVar i E S = .ok (.ref n) S := by unfold dVar; rw [e1]
  have hw : dVar j E S = .ok (.ref r) S := by unfold dVar; rw [d1]
  have hne : n ≠ r := fun z => hij (st.sep i j o o2 c c1 n hi hj e1 (by rw [z]; exact d1))
  obtain ⟨cz, c', q, g, rr, e7, hq, hz⟩ := hF _ _ _ e2 d2 hne
  obtain ⟨r1, r2⟩ := (st.write hi e1 c').newAt (by simpa using hq) hz
  exact ⟨cz, _, q, _, rr, by rw [e_call, e_acons, hv, Dn.R.bind_ok, e_acons, hw, Dn.R.bind_ok, e_anil, Dn.R.bind_ok, Dn.R.bind_ok, Dn.R.bind_ok, e7], r1, r2⟩
theorem t_neNilL (h : ∀ x ∈ xs, Da k x) (hk : k ≤ 50) : ∀ S n n', S[n]? = some (.lst xs) → S[n']? = some (.lst []) → vNe (.ref n) (.ref n') S = .ok (.bl (!xs.isEmpty)) S := fun S n n' e1 e2 => by
  obtain ⟨ps, b, hl, hp⟩ := pyWs_of (rf := pyN S 2) (k := k) (xs := xs) fun x hx => (h x hx).py
  have o := Ok.lst hp
  have o2 : Ok 1 (.list []) := Ok.lst (k := 0) fun p hp => by cases hp
  rw [vNe_of (toPy_lst e1 b) (toPy_lst e2 (show pyWs (pyN S 2) [] = some [] from rfl)) (o.shaped (by omega)) (o2.shaped (by decide))]
  congr 2
  cases xs with
  | nil =>
    have : ps = [] := List.length_eq_zero_iff.mp hl
    rw [this]
    rfl
  | cons x xs =>
    cases ps with
    | nil => simp at hl
    | cons p ps => rfl
theorem ExN.listS (hP : P[j]? = some (.c o (.lst xs))) : ExN P (dCall bList (aCons (dVar j) aNil)) (.lst xs) P := .callH (Hd.var hP) ⟨o, hP⟩ fun S n e => by
  unfold bList
  dsimp only
  rw [e]
  rfl
end
section
variable {b k : Nat} {c : Cell} {S : Store} {xs : List D}
noncomputable def FMixed : DF := dDef 2 4 (K42.den__law_mixed FTake)
def mP (b k : Nat) (xs : List D) (c : Cell) (ls ys : List D) : Qn.PE := [.c (some b) c, .c (some k) (.lst xs), .c none (.lst ls), .c none (.lst ys)]
theorem mixed_ok {kd : Nat} (hd : ∀ x ∈ xs, Da kd x) (hkd : kd ≤ 50) (hl : xs.length ≤ 100000) (hb : IsBox c) (hn : S[b]? = some c) (hk : S[k]? = some (.lst xs)) (hne : b ≠ k) :
    ∃ cz c' q g, (IsBox c' ∧ ∃ ys, cz = .lst ys ∧ ys.Perm xs) ∧ FMixed [.ref b, .ref k] S = .ok (.ref q) (S.set b c' ++ g) ∧ S.length ≤ q ∧ (S.set b c' ++ g)[q]? = some cz := by
  refine fn_boxNE (Qs := [.c (some k) (.lst xs)]) (xs := [.ref k]) (n := b) (a := 2) (k := 4) (G := fun cz c' => IsBox c' ∧ ∃ ys, cz = .lst ys ∧ ys.Perm xs) rfl hn ⟨⟨rfl, hk⟩, trivial⟩ (by
    show [b, k].Nodup
    simp [hne]) ?_
  show QE [.c (some b) c, .c (some k) (.lst xs), .any, .any] _ _
  unfold K42.den__law_mixed
  refine QE.seqS (P1 := mP b k xs c xs []) (QS.par (.consN (ExN.listS (j := 1) rfl) (.consN .nil .nil))) ?_
  refine QE.seqN (QE.whileI (fun j P => ∃ c ls ys, IsBox c ∧ ls.length = j ∧ (ls ++ ys).Perm xs ∧ P = mP b k xs c ls ys) (j := xs.length) ⟨c, xs, [], hb, rfl, by simp, rfl⟩ (Nat.lt_of_le_of_lt hl (by decide)) ?_)
  rintro j P ⟨c, ls, ys, hc, hj, hp, rfl⟩
  have hll : ls.length ≤ xs.length := by
    have := hp.length_eq
    rw [List.length_append] at this
    omega
  have hyl : ys.length ≤ xs.length := by
    have := hp.length_eq
    rw [List.length_append] at this
    omega
  have hdl : ∀ x ∈ ls, Da kd x := fun x hx => hd x (hp.mem_iff.mp (List.mem_append_left _ hx))
  refine (ExB.test (Ex.binHH (Hd.var (i := 2) (c := .lst ls) (o := none) rfl) ExN.nil.hd ⟨none, rfl⟩ trivial (t_neNilL hdl hkd))).eb ⟨fun e => ?_, fun e => ?_⟩
  · have e0 : ls = [] := by cases ls <;> simp_all
    subst e0
    refine ⟨_, rfl, (QS.retV (i := 3) rfl).qe ⟨_, _, c, rfl, rfl, fun i r d h => ?_, hc, ys, rfl, by simpa using hp⟩⟩
    match i, h with
    | 0, h => cases h; rfl
  · have e0 : 0 < ls.length := by
      cases ls with
      | nil => cases e
      | cons x ls => simp
    refine QE.drop (EE.append (j := 3) (xs := ys) rfl (EE.popAt (j := 2) (xs := ls) rfl (EE.draw (m := ls.length) (i := 0) rfl (.lenH (Hd.var (i := 2) rfl) ⟨none, rfl⟩) rfl hc e0 (by omega) fun q c3 hq hc3 => ?_)))
    refine ⟨q, ls, ls[q], rfl, by omega, rfl, List.getElem?_eq_getElem hq, ys, rfl, Nat.lt_of_le_of_lt hyl (Nat.lt_of_le_of_lt hl (by decide)), _, ?_, c3, ls.eraseIdx q, ys ++ [ls[q]], hc3, rfl, ?_, rfl⟩
    · rw [List.length_eraseIdx, if_pos hq]
      omega
    · have e1 : (ls.eraseIdx q ++ (ys ++ [ls[q]])).Perm (ls[q] :: ls.eraseIdx q ++ ys) := by
        rw [← List.append_assoc]
        exact (List.perm_append_comm).trans (by simp)
      exact e1.trans (((erase_perm ls q hq).append_right ys).trans hp)
end
end Pw
set_option Elab.async false
set_option linter.all false
set_option maxHeartbeats 1000000
set_option maxRecDepth 100000
/-! Pw3: the rules of drawn comprehensions and loops, beside known cells -/
namespace Pw
open PySem PySem.Spec L2 Dn Pn Qn TL
section
variable [K : KF] {P P' P1 P2 : Qn.PE} {ma mb mc : DE} {i j k n m r a : Nat} {b : Bool} {f f' : Fr} {E : Dn.Env} {S : Store} {v d x y z w : D} {c c' c0 c1 : Cell} {o o2 : Option Nat} {xs ys vs : List D} {da : DA} {st : DS} {O : Out → Prop} {R : D → Qn.PE → Prop} {Rc : Cell → Qn.PE → Prop} {ns : List Int}
theorem lc_outE {W : Qn.PE → Prop} {te : DE} {g : DG} {ws : List Nat} {f : Fr} {chk : Store → Bool} (I : Nat → Qn.PE → List D → Prop) (hW : ∀ i P acc, I i P acc → W P) (hc : ∀ P2 E2 S2, W P2 → Sd f P2 E2 S2 → chk S2 = true) : ∀ (xs : List D) (i : Nat) (P : Qn.PE) (acc : List D), I i P acc →
    (∀ r x P acc, xs[r]? = some x → I (i + r) P acc → acc.length < sizeLine ∧ ∃ P2, Tg ws P g x P2 ∧ EE P2 te fun y P3 => I (i + r + 1) (wipeP P3 ws) (acc ++ [y])) →
    ∀ E S, Sd f P E S → ∃ Q acc' S', I (i + xs.length) Q acc' ∧ lcL chk g dYes te E xs acc S = .ok acc' S' ∧ Sd f Q E S'
  | [], i, P, acc, h, _, E, S, t => ⟨P, acc, S, h, by unfold lcL; rw [if_pos (hc P E S (hW _ _ _ h) t)], t⟩
  | x :: xs, i, P, acc, h, hs, E, S, t => by
    obtain ⟨hl, P2, tg, he⟩ := hs 0 x P acc rfl h
    obtain ⟨E1, S1, e1, t1, l1, a1⟩ := tg f E S t
    obtain ⟨y, P3, S2, h3, e2, t2⟩ := he f E1 S1 t1
    obtain ⟨Q, acc', S', hq, e3, t3⟩ := lc_outE (te := te) (g := g) (ws := ws) I hW hc xs (i + 1) (wipeP P3 ws) (acc ++ [y]) h3 (fun r z P acc hz hi => by
      have := hs (r + 1) z P acc (by simpa using hz) (by rw [show i + (r + 1) = i + 1 + r by omega]; exact hi)
      rw [show i + (r + 1) + 1 = i + 1 + r + 1 by omega] at this
      exact this) E S2 (t2.env l1.symm fun i hi => (a1 i hi).symm)
    refine ⟨Q, acc', S', by rw [List.length_cons, show i + (xs.length + 1) = i + 1 + xs.length by omega]; exact hq, ?_, t3⟩
    unfold lcL
    rw [if_pos (hc P E S (hW _ _ _ h) t), e1]
    show (match te E1 S1 with
      | .ok y st3 => if acc.length < sizeLine then lcL chk g dYes te E xs (acc ++ [y]) st3 else .bad
      | _ => .bad) = _
    rw [e2]
    dsimp only
    rw [if_pos hl]
    exact e3
theorem EN.lcE {P P1 : Qn.PE} {xs : List D} {W : Qn.PE → Prop} {it : DI} {te : DE} {g : DG} {ws vs : List Nat} {Rc : Cell → Qn.PE → Prop} (I : Nat → Qn.PE → List D → Prop) (hi : It P it xs P1 W) (h0 : I 0 (wipeP P1 vs) []) (hW : ∀ i P acc, I i P acc → W P)
    (step : ∀ r x P acc, xs[r]? = some x → I r P acc → acc.length < sizeLine ∧ ∃ P2, Tg ws P g x P2 ∧ EE P2 te fun y P3 => I (r + 1) (wipeP P3 ws) (acc ++ [y])) (hr : ∀ Q acc, I xs.length Q acc → Rc (.lst acc) (backP P1 Q vs)) : EN P (dLc it g dYes te vs) Rc := fun f E S t => by
  obtain ⟨S1, chk, f', e1, t1, u, hc⟩ := hi f E S t
  obtain ⟨Q, acc, S2, hq, e2, t2⟩ := lc_outE (te := te) (g := g) (ws := ws) I hW hc xs 0 (wipeP P1 vs) [] h0 (by simpa using step) (dWipe E vs) S1 (t1.wipe vs)
  rw [Nat.zero_add] at hq
  have t3 : Sd f' (wipeP Q vs) E S2 := t2.env (dWipe_len vs).symm fun i hi => (dWipe_get vs i hi).symm
  have t4 := Sd.back (P := P1) t1 t3 vs fun v h => h
  obtain ⟨q1, q2⟩ := (t4.weak u t.kn).newAt (g := [.lst acc]) (n := S2.length) (c := .lst acc) (Nat.le_refl _) (by simp)
  refine ⟨.lst acc, _, _, _, hr Q acc hq, ?_, q1, q2⟩
  unfold dLc
  rw [e1, Dn.R.bind_ok]
  dsimp only
  rw [e2, Dn.R.bind_ok]
  rfl
def EI (P : Qn.PE) (it : DI) (R : List D → Qn.PE → (Qn.PE → Prop) → Prop) : Prop := ∀ f E S, Sd f P E S → ∃ xs P1 W S' chk f', R xs P1 W ∧ it E S = .ok (xs, chk) S' ∧ Sd f' P1 E S' ∧ Sub f f' ∧ ∀ P2 E2 S2, W P2 → Sd f' P2 E2 S2 → chk S2 = true
theorem EI.new {R : List D → Qn.PE → (Qn.PE → Prop) → Prop} (h : EN P ma fun c P1 => ∃ xs, c = .lst xs ∧ R xs P1 WT) : EI P (iVal ma) R := fun f E S t => by
  obtain ⟨c, P1, n, S', ⟨xs, rfl, hr⟩, e, hn, t'⟩ := h f E S t
  refine ⟨xs, P1, WT, S', fun st' => isLst st' n xs, f.add n (.lst xs), hr, ?_, t', Sub.add hn, fun P2 E2 S2 _ t2 => isLst_of t2.addc⟩
  unfold iVal
  rw [e, Dn.R.bind_ok]
  unfold seqOf
  dsimp only
  rw [t'.addc]
/-- a new list and a further one -/
theorem EI.range {Ri : List D → Qn.PE → (Qn.PE → Prop) → Prop} (h : EE P ma fun z P1 => ∃ r : Nat, z = .int (r : Nat) ∧ r ≤ 1000000 ∧ Ri (rngD 0 (r : Nat)) P1 WT) : EI P (iRange1 (aCons ma aNil)) Ri := fun f E S t => by
  obtain ⟨z, P1, S1, ⟨r, rfl, hr, h1⟩, e1, t1⟩ := h f E S t
  refine ⟨_, P1, WT, S1, fun _ => true, f, h1, ?_, t1, Sub.refl f, fun _ _ _ _ _ => rfl⟩
  unfold iRange1
  rw [e_acons, e1, Dn.R.bind_ok, e_anil, Dn.R.bind_ok, Dn.R.bind_ok]
  dsimp only
  rw [if_pos (small_nat (by omega))]
theorem EN.lcX {it : DI} {te : DE} {g : DG} {ws vs : List Nat} (h : EI P it fun xs P1 W => ∃ I : Nat → Qn.PE → List D → Prop, I 0 (wipeP P1 vs) [] ∧ (∀ i P acc, I i P acc → W P) ∧
    (∀ r x P acc, xs[r]? = some x → I r P acc → acc.length < sizeLine ∧ ∃ P2, Tg ws P g x P2 ∧ EE P2 te fun y P3 => I (r + 1) (wipeP P3 ws) (acc ++ [y])) ∧ ∀ Q acc, I xs.length Q acc → Rc (.lst acc) (backP P1 Q vs)) : EN P (dLc it g dYes te vs) Rc := fun f E S t => by
  obtain ⟨xs, P1, W, S1, chk, f', ⟨I, h0, hW, step, hr⟩, e1, t1, u, hc⟩ := h f E S t
  obtain ⟨Q, acc, S2, hq, e2, t2⟩ := lc_outE (te := te) (g := g) (ws := ws) I hW hc xs 0 (wipeP P1 vs) [] h0 (by simpa using step) (dWipe E vs) S1 (t1.wipe vs)
  rw [Nat.zero_add] at hq
  have t3 : Sd f' (wipeP Q vs) E S2 := t2.env (dWipe_len vs).symm fun i hi => (dWipe_get vs i hi).symm
  have t4 := Sd.back (P := P1) t1 t3 vs fun v h => h
  obtain ⟨q1, q2⟩ := (t4.weak u t.kn).newAt (g := [.lst acc]) (n := S2.length) (c := .lst acc) (Nat.le_refl _) (by simp)
  refine ⟨.lst acc, _, _, _, hr Q acc hq, ?_, q1, q2⟩
  unfold dLc
  rw [e1, Dn.R.bind_ok]
  dsimp only
  rw [e2, Dn.R.bind_ok]
  rfl
theorem EE.tupleN (h : EN P ma fun c P' => ∃ xs, c = .lst xs ∧ R (.tup xs) P') : EE P (dCall bTuple (aCons ma aNil)) R := fun f E S s => by
  obtain ⟨c, P1, n, S1, ⟨xs, rfl, hr⟩, e1, hn, s1⟩ := h f E S s
  exact ⟨_, P1, S1, hr, by rw [e_call, e_acons, e1, Dn.R.bind_ok, e_anil, Dn.R.bind_ok, Dn.R.bind_ok, tuple_at s1.addc], s1.unadd hn s.kn⟩
theorem pick2 (ha : Ex P ma x P) (hb : Ex P mb y P) (hc : Ex P mc (.bl b) P) : Ex P (dBin vIx (dLst (aCons ma (aCons mb aNil))) (dCall bInt (aCons mc aNil))) (if b then y else x) P := by
  cases b with
  | true => exact .binH (ExN.hd (.lst (.two ha hb) (show 2 ≤ sizeLine by decide))) (.intB hc) trivial (t_ixL (i := 1) rfl)
  | false => exact .binH (ExN.hd (.lst (.two ha hb) (show 2 ≤ sizeLine by decide))) (.intB hc) trivial (t_ixL (i := 0) rfl)
end
end Pw
set_option Elab.async false
set_option linter.all false
set_option maxHeartbeats 1000000
set_option maxRecDepth 100000
/-! Pw4: k42: a gate drawn -/
namespace Pw
open PySem PySem.Spec L2 Dn Pn Qn TL
/-- of m rows of s pairs, each in range -/
structure Rg (s m : Nat) (g : Gate) : Prop where
  len : g.length = m
  rows : ∀ r ∈ g, r.length = s
  rng : ∀ r ∈ g, ∀ p ∈ r, p.1 < s ∧ p.2 < m
def iD (m : Nat) : D := .int (m : Nat)
theorem da_iD {k : Nat} {l : List Nat} : ∀ x ∈ l.map iD, Da k x := fun x hx => by
  obtain ⟨m, _, rfl⟩ := List.mem_map.mp hx
  exact .int _
theorem da_prs {k : Nat} {l : List (Nat × Nat)} : ∀ x ∈ l.map pairD, Da (k + 1) x := fun x hx => by
  obtain ⟨p, _, rfl⟩ := List.mem_map.mp hx
  exact .tup fun y hy => by
    simp only [List.mem_cons, List.not_mem_nil, or_false] at hy
    rcases hy with rfl | rfl <;> exact .int _
/-- a list's items are all of a kind -/
theorem all_map {α : Type} {F : α → D} {q : α → Prop} : ∀ {ys : List D}, (∀ y ∈ ys, ∃ a, y = F a ∧ q a) → ∃ as : List α, ys = as.map F ∧ ∀ a ∈ as, q a
  | [], _ => ⟨[], rfl, fun a h => nomatch h⟩
  | y :: ys, h => by
    obtain ⟨a, rfl, ha⟩ := h y (List.mem_cons_self ..)
    obtain ⟨as, rfl, hs⟩ := all_map fun z hz => h z (List.mem_cons_of_mem _ hz)
    exact ⟨a :: as, rfl, fun b hb => by
      rcases List.mem_cons.mp hb with rfl | hb
      · exact ha
      · exact hs b hb⟩
theorem perm_map {α : Type} {F : α → D} {l : List α} {ys : List D} (h : ys.Perm (l.map F)) : ∃ as : List α, ys = as.map F ∧ as.length = l.length ∧ ∀ a ∈ as, a ∈ l := by
  obtain ⟨as, rfl, hs⟩ := all_map (F := F) (q := fun a => a ∈ l) (ys := ys) fun y hy => by
    obtain ⟨a, ha, rfl⟩ := List.mem_map.mp (h.mem_iff.mp hy)
    exact ⟨a, rfl, ha⟩
  exact ⟨as, rfl, by simpa using h.length_eq, hs⟩
theorem rng_iD (m : Nat) : rngD 0 (m : Nat) = (List.range m).map iD := rng_eq m
section
variable [K : KF] {P P' P1 P2 P3 : Qn.PE} {ma mb mc : DE} {i j k n m r a b s : Nat} {f f' : Fr} {E : Dn.Env} {S : Store} {v d x y z w : D} {c c' c0 c1 : Cell} {o o2 : Option Nat} {xs ys vs : List D} {da : DA} {st : DS} {O : Out → Prop} {R : D → Qn.PE → Prop} {Rc : Cell → Qn.PE → Prop} {g : Gate} {l : List Nat}
theorem t_modN (h : 0 < m) : ∀ S, vMod (.int (n : Nat)) (.int (m : Nat)) S = .ok (.int ((n % m : Nat) : Int)) S := fun S => by
  rw [t_mod (by omega), Int.natCast_emod]
theorem t_divN (h : 0 < m) (h2 : m ≤ 1000000) : ∀ S, vDiv (.int (n : Nat)) (.int (m : Nat)) S = .ok (.int ((n / m : Nat) : Int)) S := fun S => by
  rw [t_div (by omega) (by omega), Int.natCast_ediv]
theorem t_mulM (h : m ≤ 1000000) : ∀ S, vMul (.int (n : Nat)) (.int (m : Nat)) S = .ok (.int ((n * m : Nat) : Int)) S := fun S => by
  rw [t_mulR (by unfold Dn.small64; simp only [Bool.and_eq_true, decide_eq_true_eq]; omega), Int.natCast_mul]
theorem t_addM : ∀ S, vAdd (.int (n : Nat)) (.int (m : Nat)) S = .ok (.int ((n + m : Nat) : Int)) S := fun S => by
  rw [t_add, Int.natCast_add]
/-- mixed numbers below m, a new list -/
theorem mixN (hi : P[i]? = some (.c o c)) (hm : Ex P ma (.int (m : Nat)) P) (h9 : m ≤ 1000) (hb : IsBox c) (hr : ∀ (l : List Nat) c', l.length = m → (∀ a ∈ l, a < m) → (l.map iD).Perm ((List.range m).map iD) → IsBox c' → Rc (.lst (l.map iD)) (P.set i (.c o c'))) :
    EN P (dCall FMixed (aCons (dVar i) (aCons (dListRg ma) aNil))) Rc :=
  EN.boxedNL hi ((ExN.listRg hm (by omega)).en ⟨c, hi, fun S n r hn hk hne => by
    rw [rng_iD] at hk
    obtain ⟨cz, c', q, g, ⟨hc', ys, rfl, hp⟩, e⟩ := mixed_ok (kd := 0) da_iD (by decide) (by rw [List.length_map, List.length_range]; omega) hb hn hk hne
    obtain ⟨l, rfl, hl, hm⟩ := perm_map hp
    exact ⟨_, c', q, g, hr l c' (by rw [hl, List.length_range]) (fun a ha => List.mem_range.mp (hm a ha)) hp hc', e⟩⟩)
/-- .. of a slot's list of numbers -/
theorem mixV (hi : P[i]? = some (.c o c)) (hj : P[j]? = some (.c o2 (.lst ((List.range m).map iD)))) (hij : i ≠ j) (h9 : m ≤ 1000) (hb : IsBox c) (hr : ∀ (l : List Nat) c', l.length = m → (∀ a ∈ l, a < m) → (l.map iD).Perm ((List.range m).map iD) → IsBox c' → Rc (.lst (l.map iD)) (P.set i (.c o c'))) :
    EN P (dCall FMixed (aCons (dVar i) (aCons (dVar j) aNil))) Rc :=
  EN.boxedNV hi hj hij fun S n r hn hk hne => by
    obtain ⟨cz, c', q, g, ⟨hc', ys, rfl, hp⟩, e⟩ := mixed_ok (kd := 0) da_iD (by decide) (by rw [List.length_map, List.length_range]; omega) hb hn hk hne
    obtain ⟨l, rfl, hl, hm⟩ := perm_map hp
    exact ⟨_, c', q, g, hr l c' (by rw [hl, List.length_range]) (fun a ha => List.mem_range.mp (hm a ha)) hp hc', e⟩
theorem get_iD (h : r < l.length) : ∃ a, a ∈ l ∧ l[r]? = some a ∧ (l.map iD)[r]? = some (.int (a : Nat)) := ⟨l[r], List.getElem_mem h, List.getElem?_eq_getElem h, by rw [List.getElem?_map, List.getElem?_eq_getElem h]; rfl⟩
theorem slMidK {u w : Int} (hP : P[j]? = some (.c o (.lst xs))) (h : Ex P ma (.int u) P) (h2 : Ex P mb (.int w) P) : ExN P (dSl (dVar j) (dPart ma) (dPart mb)) (.lst (cutD xs (some u) (some w))) P := fun f E S t => by
  obtain ⟨n, e1, e2, _⟩ := t.cell hP
  obtain ⟨S1, e3, t1⟩ := h f E S t
  obtain ⟨S2, e4, t2⟩ := h2 f E S1 t1
  obtain ⟨n', e1', e5, _⟩ := t2.cell hP
  rw [e1] at e1'
  cases e1'
  have hv : dVar j E S = .ok (.ref n) S := by unfold dVar; rw [e1]
  have p1 : dPart ma E S = .ok (some u) S1 := by unfold dPart; rw [e3, Dn.R.bind_ok]
  have p2 : dPart mb E S1 = .ok (some w) S2 := by unfold dPart; rw [e4, Dn.R.bind_ok]
  obtain ⟨t3, hn⟩ := t2.alloc (.lst (cutD xs (some u) (some w)))
  refine ⟨_, _, ?_, hn, t3⟩
  unfold dSl
  rw [hv, Dn.R.bind_ok, p1, Dn.R.bind_ok, p2, Dn.R.bind_ok]
  unfold vSl
  dsimp only
  rw [e5]
  rfl
end
def gP (b s m : Nat) (c : Cell) (x3 x4 x5 x6 x7 x8 x9 x10 x11 x12 x13 x14 : PV) : Qn.PE := [.c (some b) c, .d (.int (s : Nat)), .d (.int (m : Nat)), x3, x4, x5, x6, x7, x8, x9, x10, x11, x12, x13, x14]
def numsL (s : Nat) : Cell := .lst ((List.range s).map iD)
section
variable {b s m fm : Nat} {c : Cell} {S : Store}
def GO (b s m : Nat) (o : Out) : Prop := ∃ v P' c', o = .rt v P' ∧ P'[0]? = some (.c (some b) c') ∧ D.lt 0 v = true ∧ c'.lt 0 = true ∧ IsBox c' ∧ ∃ g, v = gateD g ∧ Rg s m g
theorem GO.of {P : Qn.PE} {g : Gate} (h0 : P[0]? = some (.c (some b) c)) (hb : IsBox c) (hg : Rg s m g) : GO b s m (.rt (gateD g) P) := ⟨_, P, c, rfl, h0, gate_lt 0 g, hb.lt 0, hb, g, rfl, hg⟩
/-- all pairs, mixed, in rows -/
theorem gate_mixed (s0 : 0 < s) (m0 : 0 < m) (s9 : s ≤ 20) (m9 : m ≤ 50) (hb : IsBox c) {x3 x4 : PV} : QE (gP b s m c x3 x4 .any .any .any .any .any .any .any .any .any .any)
    (dSeq (dAsg (dCall FMixed (aCons (dVar 0) (aCons (dLc (iRange1 (aCons (dBin vMul (dVar 1) (dVar 2)) aNil)) (gNm 12) dYes (dTup (aCons (dBin vMod (dVar 12) (dVar 1)) (aCons (dBin vDiv (dVar 12) (dVar 1)) aNil))) [12]) aNil))) (gNm 5)) (dRet (dCall bTuple (aCons (dLc (iRange1 (aCons (dVar 2) aNil)) (gNm 6) dYes (dCall bTuple (aCons (dSl (dVar 5) (dPart (dBin vMul (dVar 1) (dVar 6))) (dPart (dBin vAdd (dBin vMul (dVar 1) (dVar 6)) (dVar 1)))) aNil)) [6]) aNil)))) (GO b s m) := by
  have hsm : s * m ≤ 1000 := Nat.le_trans (Nat.mul_le_mul s9 m9) (by decide)
  have prs : ExN (gP b s m c x3 x4 .any .any .any .any .any .any .any .any .any .any) (dLc (iRange1 (aCons (dBin vMul (dVar 1) (dVar 2)) aNil)) (gNm 12) dYes (dTup (aCons (dBin vMod (dVar 12) (dVar 1)) (aCons (dBin vDiv (dVar 12) (dVar 1)) aNil))) [12])
      (.lst ((List.range (s * m)).map fun k => pairD (k % s, k / s))) (gP b s m c x3 x4 .any .any .any .any .any .any .any .any .any .any) := by
    have it := It.range (r := s * m) (Ex.bin (P := gP b s m c x3 x4 .any .any .any .any .any .any .any .any .any .any) (.var (i := 1) rfl) (.var (i := 2) rfl) (t_mulM (by omega))) (by omega)
    rw [rng_iD] at it
    exact ExN.lc (F := fun k : Nat => pairD (k % s, k / s)) it (by rw [List.length_range]; exact le_sl hsm) trivial (fun v hv => hv) fun k hk => ⟨_, Tg.nm 12 _, .tup2 (.bin (.var (i := 12) rfl) (.var (i := 1) rfl) (t_modN s0)) (.bin (.var (i := 12) rfl) (.var (i := 1) rfl) (t_divN s0 (by omega))), rfl⟩
  refine QE.seqN (QE.asgN (EN.boxedNL (i := 0) rfl (prs.en ⟨c, rfl, fun S n r hn hk hne => ?_⟩)))
  have em : ((List.range (s * m)).map fun k => pairD (k % s, k / s)) = ((List.range (s * m)).map fun k : Nat => ((k % s, k / s) : Nat × Nat)).map pairD := by rw [List.map_map]; rfl
  rw [em] at hk
  obtain ⟨cz, c', q, g, ⟨hc', ys, rfl, hp⟩, e⟩ := mixed_ok (kd := 1) da_prs (by decide) (by rw [List.length_map, List.length_map, List.length_range]; omega) hb hn hk hne
  obtain ⟨qs, rfl, hl, hq⟩ := perm_map hp
  rw [List.length_map, List.length_range] at hl
  refine ⟨_, c', q, g, ⟨_, rfl, ?_⟩, e⟩
  show QE (gP b s m c' x3 x4 (.c none (.lst (qs.map pairD))) .any .any .any .any .any .any .any .any .any) _ _
  have hq2 : ∀ p ∈ qs, p.1 < s ∧ p.2 < m := fun p hp => by
    obtain ⟨k, hk, rfl⟩ := List.mem_map.mp (hq p hp)
    have := List.mem_range.mp hk
    exact ⟨Nat.mod_lt _ s0, Nat.div_lt_of_lt_mul this⟩
  have hch : ∀ k < m, k * s + s ≤ qs.length := fun k hk => by
    rw [hl]
    have := Nat.mul_le_mul_left s (Nat.succ_le_of_lt hk)
    rw [Nat.mul_succ, Nat.mul_comm s k] at this
    exact this
  have rows := ExN.lc (P := gP b s m c' x3 x4 (.c none (.lst (qs.map pairD))) .any .any .any .any .any .any .any .any .any) (l := List.range m) (h := iD) (g := gNm 6) (ws := [6]) (vs := [6]) (te := dCall bTuple (aCons (dSl (dVar 5) (dPart (dBin vMul (dVar 1) (dVar 6))) (dPart (dBin vAdd (dBin vMul (dVar 1) (dVar 6)) (dVar 1)))) aNil)) (fun k => rowD (chunk s qs k))
    (by
      have it := It.range (r := m) (P := gP b s m c' x3 x4 (.c none (.lst (qs.map pairD))) .any .any .any .any .any .any .any .any .any) (.var (i := 2) rfl) (by omega)
      rw [rng_iD] at it
      exact it) (by rw [List.length_range]; exact le_sl (by omega)) trivial (fun v hv => hv) (fun k hk => ⟨_, Tg.nm 6 _, by
        have hk := List.mem_range.mp hk
        have e := slMidK (P := gP b s m c' x3 x4 (.c none (.lst (qs.map pairD))) (.d (iD k)) .any .any .any .any .any .any .any .any) (j := 5) (u := ((s * k : Nat) : Int)) (w := ((s * k + s : Nat) : Int)) rfl (.bin (.var (i := 1) rfl) (.var (i := 6) rfl) (t_mulM (by omega))) (.bin (.bin (.var (i := 1) rfl) (.var (i := 6) rfl) (t_mulM (by omega))) (.var (i := 1) rfl) t_addM)
        rw [Nat.mul_comm s k, cut_chunk (hch k hk)] at e
        exact Ex.tupleN e, rfl⟩)
  have ef := QS.ret (Ex.tupleN rows)
  have eg : D.tup ((List.range m).map fun k => rowD (chunk s qs k)) = gateD ((List.range m).map (chunk s qs)) := by
    unfold gateD
    rw [List.map_map]
    rfl
  rw [eg] at ef
  refine ef.qe (GO.of rfl hc' ⟨by rw [List.length_map, List.length_range], fun r hr => ?_, fun r hr p hp => ?_⟩)
  · obtain ⟨k, hk, rfl⟩ := List.mem_map.mp hr
    have := hch k (List.mem_range.mp hk)
    unfold chunk
    rw [List.length_take, List.length_drop]
    omega
  · obtain ⟨k, hk, rfl⟩ := List.mem_map.mp hr
    exact hq2 p (List.mem_of_mem_drop (List.mem_of_mem_take hp))
end
end Pw
set_option Elab.async false
set_option linter.all false
set_option maxHeartbeats 1000000
set_option maxRecDepth 100000
/-! Pw5: k42: a gate drawn, whole -/
namespace Pw
open PySem PySem.Spec L2 Dn Pn Qn TL
section
variable {b s m fm : Nat} {c : Cell} {S : Store}
theorem Rg.snoc {g : Gate} {w : List (Nat × Nat)} {k : Nat} (h : g.length = k ∧ (∀ r ∈ g, r.length = s) ∧ ∀ r ∈ g, ∀ p ∈ r, p.1 < s ∧ p.2 < m) (hl : w.length = s) (hr : ∀ p ∈ w, p.1 < s ∧ p.2 < m) : (g ++ [w]).length = k + 1 ∧ (∀ r ∈ g ++ [w], r.length = s) ∧ ∀ r ∈ g ++ [w], ∀ p ∈ r, p.1 < s ∧ p.2 < m := by
  refine ⟨by rw [List.length_append, h.1]; rfl, fun u hu => ?_, fun u hu => ?_⟩
  · rcases List.mem_append.mp hu with hu | hu
    · exact h.2.1 u hu
    · rw [List.mem_singleton.mp hu]; exact hl
  · rcases List.mem_append.mp hu with hu | hu
    · exact h.2.2 u hu
    · rw [List.mem_singleton.mp hu]; exact hr
theorem snoc_all {α : Type} {q : α → Prop} {l : List α} {a : α} (h : ∀ x ∈ l, q x) (ha : q a) : ∀ x ∈ l ++ [a], q x := fun x hx => by
  rcases List.mem_append.mp hx with hx | hx
  · exact h x hx
  · rw [List.mem_singleton.mp hx]; exact ha
noncomputable def FGate4 : DF := trimF (dDef 3 15 (K42.den__law_gate FTake FMixed))
theorem gate4_ok (s0 : 0 < s) (m0 : 0 < m) (s9 : s ≤ 20) (m9 : m ≤ 50) (hn : S[b]? = some c) (hb : IsBox c) : ∃ v c', (IsBox c' ∧ ∃ g, v = gateD g ∧ Rg s m g) ∧ FGate4 [.ref b, .int (s : Nat), .int (m : Nat)] S = .ok v (S.set b c') := by
  refine fn_boxD (vs := [.int (s : Nat), .int (m : Nat)]) (n := b) (a := 3) (k := 15) (G := fun v c' => IsBox c' ∧ ∃ g, v = gateD g ∧ Rg s m g) rfl hn ?_
  show QE (gP b s m c .any .any .any .any .any .any .any .any .any .any .any .any) _ (GO b s m)
  unfold K42.den__law_gate
  refine QE.seqN (QE.par (EM.cons (R1 := fun v P1 => ∃ (q : Nat) (c1 : Cell), IsBox c1 ∧ v = .int (q : Nat) ∧ P1 = gP b s m c1 .any .any .any .any .any .any .any .any .any .any .any .any) (.draw (m := 5) (i := 0) rfl (.con _) rfl hb (by decide) (by decide) fun q c1 hq hc1 => ⟨q, c1, hc1, rfl, rfl⟩) ?_))
  rintro _ _ ⟨fm, c1, hc1, rfl, rfl⟩
  refine EM.consN (Rc := fun cz P1 => cz = numsL s ∧ P1 = gP b s m c1 .any .any .any .any .any .any .any .any .any .any .any .any) ?_ ?_
  · have e := ExN.listRg (r := s) (P := gP b s m c1 .any .any .any .any .any .any .any .any .any .any .any .any) (.var (i := 1) rfl) (by omega)
    rw [rng_iD] at e
    exact e.en ⟨rfl, rfl⟩
  rintro _ _ ⟨rfl, rfl⟩
  refine EM.nil ⟨rfl, _, rfl, ?_⟩
  show QE (gP b s m c1 (.d (.int (fm : Nat))) (.c none (numsL s)) .any .any .any .any .any .any .any .any .any .any) _ _
  have tl : ExB (gP b s m c1 (.d (.int (fm : Nat))) (.c none (numsL s)) .any .any .any .any .any .any .any .any .any .any) (dTest (dBin vLt (dVar 3) (dC (.int 2)))) (decide (((fm : Nat) : Int) < 2)) (gP b s m c1 (.d (.int (fm : Nat))) (.c none (numsL s)) .any .any .any .any .any .any .any .any .any .any) := .test (.bin (.var (i := 3) rfl) (.con _) (t_cmp (p := fun i j => decide (i < j))))
  by_cases h2 : fm < 2
  · rw [decide_eq_true (by omega)] at tl
    refine QE.seq ((QE.ite (Rb := fun b' P' => b' = true ∧ P' = gP b s m c1 (.d (.int (fm : Nat))) (.c none (numsL s)) .any .any .any .any .any .any .any .any .any .any) (tl.eb ⟨rfl, rfl⟩) ?_ (fun P1 h => by cases h.1)).mono fun o ho => .inr ⟨?_, ho⟩)
    · rintro _ ⟨_, rfl⟩
      exact gate_mixed s0 m0 s9 m9 hc1
    · obtain ⟨_, _, _, rfl, _⟩ := ho
      rfl
  rw [decide_eq_false (by omega)] at tl
  refine QE.seqS (P1 := gP b s m c1 (.d (.int (fm : Nat))) (.c none (numsL s)) .any .any .any .any .any .any .any .any .any .any) (.ifF tl .next) ?_
  -- led, outs, rows
  refine QE.seqN (QE.tupM (is := [7, 8, 9]) (EM.consN (Rc := fun cz P1 => ∃ (l : List Nat) (c2 : Cell), l.length = m ∧ (∀ a ∈ l, a < m) ∧ IsBox c2 ∧ cz = .lst (l.map iD) ∧ P1 = gP b s m c2 (.d (.int (fm : Nat))) (.c none (numsL s)) .any .any .any .any .any .any .any .any .any .any)
    (mixN (i := 0) rfl (.var (i := 2) rfl) (by omega) hc1 fun l c2 h1 h2 _ h3 => ⟨l, c2, h1, h2, h3, rfl, rfl⟩) ?_))
  rintro _ _ ⟨led, c2, ll, hled, hc2, rfl, rfl⟩
  refine EM.consN (Rc := fun cz P1 => ∃ (l : List Nat) (c3 : Cell), l.length = s ∧ (∀ a ∈ l, a < s) ∧ IsBox c3 ∧ cz = .lst (l.map iD) ∧ P1 = gP b s m c3 (.d (.int (fm : Nat))) (.c none (numsL s)) .any .any .any .any .any .any .any .any .any .any)
    (mixV (i := 0) (j := 4) rfl rfl (by decide) (by omega) hc2 fun l c3 h1 h2 _ h3 => ⟨l, c3, h1, h2, h3, rfl, rfl⟩) ?_
  rintro _ _ ⟨outs, c3, lo, houts, hc3, rfl, rfl⟩
  refine EM.consN (Rc := fun cz P1 => cz = .lst [] ∧ P1 = gP b s m c3 (.d (.int (fm : Nat))) (.c none (numsL s)) .any .any .any .any .any .any .any .any .any .any) (ExN.nil.en ⟨rfl, rfl⟩) ?_
  rintro _ _ ⟨rfl, rfl⟩
  refine EM.nil ⟨rfl, le_sl (show 3 ≤ 1000 by decide), _, rfl, ?_⟩
  show QE (gP b s m c3 (.d (.int (fm : Nat))) (.c none (numsL s)) .any .any (.c none (.lst (led.map iD))) (.c none (.lst (outs.map iD))) (.c none (.lst [])) .any .any .any .any .any) _ _
  refine QE.name (i := 4) rfl fun q => ?_
  show QE (gP b s m c3 (.d (.int (fm : Nat))) (.c (some q) (numsL s)) .any .any (.c none (.lst (led.map iD))) (.c none (.lst (outs.map iD))) (.c none (.lst [])) .any .any .any .any .any) _ _
  -- the turns
  refine QE.lcK (ws := [13]) (fun _ P => ∃ c x13, IsBox c ∧ P = gP b s m c (.d (.int (fm : Nat))) (.c (some q) (numsL s)) .any .any (.c none (.lst (led.map iD))) (.c none (.lst (outs.map iD))) (.c none (.lst [])) .any .any .any x13 .any)
    (fun _ cz => ∃ l : List Nat, cz = .lst (l.map iD) ∧ l.length = m ∧ ∀ a ∈ l, a < m) (It.own (j := 4) (n := q) rfl) ⟨c3, _, hc3, rfl⟩ (by rw [List.length_map, List.length_range]; exact le_sl (by omega)) ?_ ?_ ?_
  · rintro i P ⟨c, x13, _, rfl⟩
    rfl
  · rintro r x P hx ⟨c, x13, hc, rfl⟩
    exact ⟨_, Tg.nm 13 _, mixN (i := 0) rfl (.var (i := 2) rfl) (by omega) hc fun l c2 h1 h2 _ h3 => ⟨⟨l, rfl, h1, h2⟩, c2, _, h3, rfl⟩⟩
  intro zs Q n K' hzl hzp hQ hkn hkz _
  obtain ⟨c4, x13, hc4, rfl⟩ := hQ
  rw [List.length_map, List.length_range] at hzl
  show QE (gP b s m c4 (.d (.int (fm : Nat))) (.c (some q) (numsL s)) .any .any (.c none (.lst (led.map iD))) (.c none (.lst (outs.map iD))) (.c none (.lst [])) (.d (.ref n)) .any .any .any .any) _ _
  have turn : ∀ i < s, ∃ z l, zs[i]? = some z ∧ K'.k z.1 = some (.lst (List.map iD l)) ∧ l.length = m ∧ ∀ a ∈ l, a < m := fun i hi => by
    have e := List.getElem?_eq_getElem (l := zs) (i := i) (by omega)
    obtain ⟨l, h1, h2, h3⟩ := hzp i _ e
    exact ⟨_, l, e, by rw [hkz _ (List.getElem_mem (by omega)), h1], h2, h3⟩
  refine QE.seqN (QE.forI (fun r P => ∃ c g x6 x11, IsBox c ∧ (List.length g = r ∧ (∀ r ∈ g, List.length r = s) ∧ ∀ r ∈ g, ∀ p ∈ r, p.1 < s ∧ p.2 < m) ∧ P = gP b s m c (.d (.int (fm : Nat))) (.c (some q) (numsL s)) .any x6 (.c none (.lst (led.map iD))) (.c none (.lst (outs.map iD))) (.c none (.lst (g.map rowD))) (.d (.ref n)) x11 .any .any .any) (It.range (r := m) (.var (i := 2) rfl) (by omega)) ⟨c4, [], _, _, hc4, ⟨rfl, (fun r h => nomatch h), (fun r h => nomatch h)⟩, rfl⟩ (fun _ _ _ => trivial) ?_ ?_)
  · rintro P ⟨c, g, x6, x11, hc, hg, rfl⟩
    rw [rng_len] at hg
    refine ⟨_, rfl, (QS.ret (Ex.tupleH (Hd.var (i := 9) rfl) ⟨none, rfl⟩)).qe (GO.of (g := g) rfl hc ⟨hg.1, hg.2.1, hg.2.2⟩)⟩
  rintro r x P hx ⟨c, g, x6, x11, hc, hg, rfl⟩
  obtain ⟨hr, rfl⟩ := rng_get hx
  refine ⟨[6], _, Tg.nm 6 _, ?_⟩
  show QE (gP b s m c (.d (.int (fm : Nat))) (.c (some q) (numsL s)) .any (.d (.int (r : Nat))) (.c none (.lst (led.map iD))) (.c none (.lst (outs.map iD))) (.c none (.lst (g.map rowD))) (.d (.ref n)) x11 .any .any .any) _ _
  have hgl := hg.1
  have t3 : ExB (gP b s m c (.d (.int (fm : Nat))) (.c (some q) (numsL s)) .any (.d (.int (r : Nat))) (.c none (.lst (led.map iD))) (.c none (.lst (outs.map iD))) (.c none (.lst (g.map rowD))) (.d (.ref n)) x11 .any .any .any) (dTest (dBin vEq (dVar 3) (dC (.int 3)))) (decide (((fm : Nat) : Int) = 3)) (gP b s m c (.d (.int (fm : Nat))) (.c (some q) (numsL s)) .any (.d (.int (r : Nat))) (.c none (.lst (led.map iD))) (.c none (.lst (outs.map iD))) (.c none (.lst (g.map rowD))) (.d (.ref n)) x11 .any .any .any) := .test (.bin (.var (i := 3) rfl) (.con _) t_eqI)
  refine QE.ite (t3.eb (Rb := fun _ P' => P' = gP b s m c (.d (.int (fm : Nat))) (.c (some q) (numsL s)) .any (.d (.int (r : Nat))) (.c none (.lst (led.map iD))) (.c none (.lst (outs.map iD))) (.c none (.lst (g.map rowD))) (.d (.ref n)) x11 .any .any .any) rfl) ?_ ?_
  · rintro _ rfl
    refine QE.drop (EE.append (j := 9) rfl (EE.tupleN (EN.lcE (ws := [13]) (fun i P acc => ∃ (row : List (Nat × Nat)) (x13 : PV), acc = row.map pairD ∧ row.length = i ∧ (∀ p ∈ row, p.1 < s ∧ p.2 < m) ∧ P = gP b s m c (.d (.int (fm : Nat))) (.c (some q) (numsL s)) .any (.d (.int (r : Nat))) (.c none (.lst (led.map iD))) (.c none (.lst (outs.map iD))) (.c none (.lst (g.map rowD))) (.d (.ref n)) x11 .any x13 .any) (It.own (j := 4) (n := q) rfl) ⟨[], _, rfl, rfl, (fun p h => nomatch h), rfl⟩ ?_ ?_ ?_)))
    · rintro i P acc ⟨row, x13, _, _, _, rfl⟩
      rfl
    · rintro i x P acc hx ⟨row, x13, rfl, hl, hp, rfl⟩
      rw [List.getElem?_map] at hx
      obtain ⟨a, ha, rfl⟩ := Option.map_eq_some_iff.mp hx
      have hi : i < s := by
        have := (List.getElem?_eq_some_iff.mp ha).1
        rwa [List.length_range] at this
      have ea : a = i := by rw [List.getElem?_range hi] at ha; exact (Option.some.inj ha).symm
      subst ea
      obtain ⟨u, hu, _, eu⟩ := get_iD (l := outs) (r := a) (by omega)
      obtain ⟨z, l, hz, hk, hll, hlm⟩ := turn a hi
      obtain ⟨w, hw, _, ew⟩ := get_iD (l := l) (r := r) (by omega)
      refine ⟨by rw [List.length_map, hl]; exact le_sl (by omega) |> Nat.lt_of_lt_of_le (Nat.lt_succ_self _), _, Tg.nm 13 _, (Ex.tup2 (.binH (Hd.var (i := 8) rfl) (.var (i := 13) rfl) ⟨none, rfl⟩ (t_ixL eu)) (Ex.ixKn (Ex.ixKn (xs := zs.map zRef) (.var (i := 10) rfl) (.var (i := 13) rfl) hkn (by rw [List.getElem?_map, hz]; rfl)) (.var (i := 6) rfl) hk ew)).ee ⟨row ++ [(u, w)], _, by rw [List.map_append]; rfl, by rw [List.length_append, hl]; rfl, snoc_all hp ⟨houts u hu, hlm w hw⟩, rfl⟩⟩
    · rintro Q2 acc ⟨row, x13, rfl, hl, hp, rfl⟩
      rw [List.length_map, List.length_range] at hl
      exact ⟨_, rfl, g.map rowD, rfl, by rw [List.length_map, hgl]; exact sl_ge _ (by omega), c, g ++ [row], _, _, hc, Rg.snoc hg hl hp, by rw [List.map_append]; rfl⟩
  · rintro _ rfl
    obtain ⟨w0, hw0, _, ew0⟩ := get_iD (l := led) (r := r) (by omega)
    obtain ⟨goal, hgoal, eg⟩ : ∃ goal : Nat, goal < m ∧ Ex (gP b s m c (.d (.int (fm : Nat))) (.c (some q) (numsL s)) .any (.d (.int (r : Nat))) (.c none (.lst (led.map iD))) (.c none (.lst (outs.map iD))) (.c none (.lst (g.map rowD))) (.d (.ref n)) x11 .any .any .any) (dBin vIx (dLst (aCons (dVar 6) (aCons (dBin vIx (dVar 7) (dVar 6)) aNil))) (dCall bInt (aCons (dBin vEq (dVar 3) (dC (.int 4))) aNil))) (.int (goal : Nat)) (gP b s m c (.d (.int (fm : Nat))) (.c (some q) (numsL s)) .any (.d (.int (r : Nat))) (.c none (.lst (led.map iD))) (.c none (.lst (outs.map iD))) (.c none (.lst (g.map rowD))) (.d (.ref n)) x11 .any .any .any) := by
      have e := pick2 (Ex.var (P := gP b s m c (.d (.int (fm : Nat))) (.c (some q) (numsL s)) .any (.d (.int (r : Nat))) (.c none (.lst (led.map iD))) (.c none (.lst (outs.map iD))) (.c none (.lst (g.map rowD))) (.d (.ref n)) x11 .any .any .any) (i := 6) rfl) (Ex.binH (Hd.var (i := 7) rfl) (.var (i := 6) rfl) ⟨none, rfl⟩ (t_ixL ew0)) (Ex.bin (.var (i := 3) rfl) (.con (.int 4)) t_eqI)
      split at e
      · exact ⟨w0, hled w0 hw0, e⟩
      · exact ⟨r, hr, e⟩
    refine QE.seqS (.asg eg) ?_
    show QE (gP b s m c (.d (.int (fm : Nat))) (.c (some q) (numsL s)) .any (.d (.int (r : Nat))) (.c none (.lst (led.map iD))) (.c none (.lst (outs.map iD))) (.c none (.lst (g.map rowD))) (.d (.ref n)) (.d (.int (goal : Nat))) .any .any .any) _ _
    refine QE.drop (EE.append (j := 9) rfl (EE.tupleN (EN.lcX (ws := [14]) (EI.new (mixV (i := 0) (j := 4) rfl rfl (by decide) (by omega) hc fun l c5 h1 h2 _ h3 => ⟨_, rfl, fun i P acc => ∃ (row : List (Nat × Nat)) (x14 : PV), acc = row.map pairD ∧ row.length = i ∧ (∀ p ∈ row, p.1 < s ∧ p.2 < m) ∧ P = gP b s m c5 (.d (.int (fm : Nat))) (.c (some q) (numsL s)) .any (.d (.int (r : Nat))) (.c none (.lst (led.map iD))) (.c none (.lst (outs.map iD))) (.c none (.lst (g.map rowD))) (.d (.ref n)) (.d (.int (goal : Nat))) .any .any x14, ⟨[], _, rfl, rfl, (fun p h => nomatch h), rfl⟩, fun _ _ _ _ => trivial, ?_, ?_⟩)))))
    · rintro i x P acc hx ⟨row, x14, rfl, hl, hp, rfl⟩
      rw [List.getElem?_map] at hx
      obtain ⟨a, ha, rfl⟩ := Option.map_eq_some_iff.mp hx
      have hi := (List.getElem?_eq_some_iff.mp ha).1
      refine ⟨by rw [List.length_map, hl]; exact sl_ge _ (by omega), _, Tg.nm 14 _, (Ex.tup2 (.var (i := 14) rfl) (.var (i := 11) rfl)).ee ⟨row ++ [(a, goal)], _, by rw [List.map_append]; rfl, by rw [List.length_append, hl]; rfl, snoc_all hp ⟨h2 a (List.mem_of_getElem? ha), hgoal⟩, rfl⟩⟩
    · rintro Q2 acc ⟨row, x14, rfl, hl, hp, rfl⟩
      rw [List.length_map, h1] at hl
      exact ⟨_, rfl, g.map rowD, rfl, by rw [List.length_map, hgl]; exact sl_ge _ (by omega), c5, g ++ [row], _, _, h3, Rg.snoc hg hl hp, by rw [List.map_append]; rfl⟩
end
end Pw
set_option Elab.async false
set_option linter.all false
set_option maxHeartbeats 1000000
set_option maxRecDepth 100000
/-! Pw6: k42: a gate with its marks called otherwise -/
namespace Pw
open PySem PySem.Spec L2 Dn Pn Qn TL
theorem rep_flat {d : D} : ∀ n : Nat, (List.replicate n [d]).flatten = List.replicate n d
  | 0 => rfl
  | n + 1 => by
    rw [List.replicate_succ, List.flatten_cons, rep_flat n, List.replicate_succ]
    rfl
section
variable [K : KF] {P P' P1 : Qn.PE} {ma mb : DE} {i j k n m r s : Nat} {c : Cell} {o : Option Nat} {d : D} {R : D → Qn.PE → Prop} {Rc : Cell → Qn.PE → Prop} {l : List Nat} {g : Gate}
/-- [x] * n -/
theorem repN (ha : Ex P ma d P) (hb : Ex P mb (.int (n : Nat)) P) (hn : n ≤ 1000) : ExN P (dBin vMul (dLst (aCons ma aNil)) mb) (.lst (List.replicate n d)) P :=
  .binH (ExN.hd (ExN.lst (.one ha) (le_sl (show 1 ≤ 1000 by decide)))) hb trivial fun S q e => by
    show repLst q ((n : Nat) : Int) S = _
    unfold repLst
    rw [e]
    dsimp only
    rw [if_pos ⟨by omega, by omega, by rw [List.length_singleton, Int.toNat_natCast, Nat.one_mul]; exact le_sl hn⟩, Int.toNat_natCast]
    rw [rep_flat]
    rfl
/-- numbers mixed are all there -/
theorem perm_all (h : (l.map iD).Perm ((List.range m).map iD)) (hi : i < m) : i ∈ l := by
  have e : iD i ∈ l.map iD := h.mem_iff.mpr (List.mem_map.mpr ⟨i, List.mem_range.mpr hi, rfl⟩)
  obtain ⟨a, ha, e⟩ := List.mem_map.mp e
  have : a = i := by
    unfold iD at e
    injection e with e
    omega
  rw [← this]
  exact ha
end
section
variable {b s m : Nat} {c : Cell} {S : Store} {g : Gate}
/-- rows by places: those named are there -/
def Set_ (s m : Nat) (names : List Nat) (rs : List D) : Prop := rs.length = m ∧ ∀ i ∈ names, ∃ row : List (Nat × Nat), rs[i]? = some (rowD row) ∧ row.length = s ∧ ∀ p ∈ row, p.1 < s ∧ p.2 < m
theorem Set_.put {names : List Nat} {rs : List D} {a : Nat} {row : List (Nat × Nat)} (h : Set_ s m names rs) (ha : a < m) (hl : row.length = s) (hr : ∀ p ∈ row, p.1 < s ∧ p.2 < m) : Set_ s m (names ++ [a]) (rs.set a (rowD row)) := by
  refine ⟨by rw [List.length_set, h.1], fun i hi => ?_⟩
  by_cases e : a = i
  · subst e
    exact ⟨row, by rw [List.getElem?_set_self (by rw [h.1]; exact ha)], hl, hr⟩
  · rw [List.getElem?_set_ne e]
    rcases List.mem_append.mp hi with hi | hi
    · exact h.2 i hi
    · exact absurd (List.mem_singleton.mp hi).symm e
theorem Set_.gate {names : List Nat} {rs : List D} (h : Set_ s m names rs) (hn : ∀ i < m, i ∈ names) : ∃ g, D.tup rs = gateD g ∧ Rg s m g := by
  obtain ⟨g, rfl, hg⟩ := all_map (F := rowD) (q := fun row : List (Nat × Nat) => row.length = s ∧ ∀ p ∈ row, p.1 < s ∧ p.2 < m) (ys := rs) fun y hy => by
    obtain ⟨i, hi⟩ := List.getElem?_of_mem hy
    have hm : i < m := by rw [← h.1]; exact (List.getElem?_eq_some_iff.mp hi).1
    obtain ⟨row, e, h1, h2⟩ := h.2 i (hn i hm)
    rw [hi] at e
    exact ⟨row, Option.some.inj e, h1, h2⟩
  exact ⟨g, rfl, by have := h.1; rwa [List.length_map] at this, fun r hr => (hg r hr).1, fun r hr => (hg r hr).2⟩
noncomputable def FRenum : DF := trimF (dDef 2 7 (K42.den__law_renumbered FMixed))
def rP (b : Nat) (g : Gate) (c : Cell) (x2 x3 x4 x5 x6 : PV) : Qn.PE := [.c (some b) c, .d (gateD g), x2, x3, x4, x5, x6]
theorem renum_ok (hg : Rg s m g) (m9 : m ≤ 50) (s9 : s ≤ 20) (hn : S[b]? = some c) (hb : IsBox c) : ∃ v c', (IsBox c' ∧ ∃ g, v = gateD g ∧ Rg s m g) ∧ FRenum [.ref b, gateD g] S = .ok v (S.set b c') := by
  refine fn_boxD (vs := [gateD g]) (n := b) (a := 2) (k := 7) (G := fun v c' => IsBox c' ∧ ∃ g, v = gateD g ∧ Rg s m g) rfl hn ?_
  show QE (rP b g c .any .any .any .any .any) _ (GO b s m)
  unfold K42.den__law_renumbered
  have len : ∀ {c x2 x3 x4 x5 x6}, Ex (rP b g c x2 x3 x4 x5 x6) (dCall bLen (aCons (dVar 1) aNil)) (.int (m : Nat)) (rP b g c x2 x3 x4 x5 x6) := fun {c x2 x3 x4 x5 x6} => by
    have e := Ex.len (P := rP b g c x2 x3 x4 x5 x6) (.var (i := 1) (v := .tup (g.map rowD)) rfl)
    rw [List.length_map, hg.len] at e
    exact e
  refine QE.seqN (QE.asgN (mixN (i := 0) rfl len (by omega) hb fun l c1 ll hl hp hc1 => ⟨_, rfl, ?_⟩))
  show QE (rP b g c1 (.c none (.lst (l.map iD))) .any .any .any .any) _ _
  refine QE.seqS (P1 := rP b g c1 (.c none (.lst (l.map iD))) (.c none (.lst (List.replicate m (.tup [])))) .any .any .any) (.asgN (repN (Ex.tup .nil (Nat.zero_le _)) len (by omega))) ?_
  refine QE.seqN (QE.forI (fun r P => ∃ rs x4 x5, Set_ s m (l.take r) rs ∧ P = rP b g c1 (.c none (.lst (l.map iD))) (.c none (.lst rs)) x4 x5 .any) (It.enum (xs := g.map rowD) (.var (i := 1) rfl)) ⟨_, _, _, ⟨List.length_replicate .., fun i hi => nomatch hi⟩, rfl⟩ (fun _ _ _ => trivial) ?_ ?_)
  · rintro P ⟨rs, x4, x5, hs, rfl⟩
    rw [enumD_length, List.length_map, hg.len, ← ll, List.take_length] at hs
    rw [ll] at hs
    obtain ⟨g2, e, h2⟩ := hs.gate fun i hi => perm_all hp hi
    have ef := QS.ret (Ex.tupleH (P := rP b g c1 (.c none (.lst (l.map iD))) (.c none (.lst rs)) x4 x5 .any) (Hd.var (i := 3) rfl) ⟨none, rfl⟩)
    rw [e] at ef
    exact ⟨_, rfl, ef.qe (GO.of rfl hc1 h2)⟩
  rintro r x P hx ⟨rs, x4, x5, hs, rfl⟩
  obtain ⟨y, hy, rfl⟩ := enum_get hx
  obtain ⟨row, hrow, rfl⟩ := map_get hy
  have hrm := List.mem_of_getElem? hrow
  have hr : r < m := by rw [← hg.len]; exact (List.getElem?_eq_some_iff.mp hrow).1
  obtain ⟨a, ha, ea, ea2⟩ := get_iD (l := l) (r := r) (by omega)
  refine ⟨[4, 5], _, Tg.tp2 4 5 _ _, ?_⟩
  show QE (rP b g c1 (.c none (.lst (l.map iD))) (.c none (.lst rs)) (.d (.int (r : Nat))) (.d (rowD row)) .any) _ _
  have et : l.take (r + 1) = l.take r ++ [a] := by rw [List.take_add_one, ea]; rfl
  refine QE.asgT (EE.tupleN (EN.lcE (ws := [6]) (fun i P acc => ∃ (w : List (Nat × Nat)) (x6 : PV), acc = w.map pairD ∧ w.length = i ∧ (∀ p ∈ w, p.1 < s ∧ p.2 < m) ∧ P = rP b g c1 (.c none (.lst (l.map iD))) (.c none (.lst rs)) (.d (.int (r : Nat))) (.d (rowD row)) x6) (It.tup (xs := row.map pairD) (.var (i := 5) rfl)) ⟨[], _, rfl, rfl, (fun p h => nomatch h), rfl⟩ (fun _ _ _ _ => trivial) ?_ ?_))
  · rintro i x P acc hx ⟨w, x6, rfl, hl2, hp2, rfl⟩
    obtain ⟨p, hp3, rfl⟩ := map_get hx
    have hpr := hg.rng row hrm p (List.mem_of_getElem? hp3)
    have hil : i < s := by rw [← hg.rows row hrm]; exact (List.getElem?_eq_some_iff.mp hp3).1
    obtain ⟨u, hu, _, eu⟩ := get_iD (l := l) (r := p.2) (by omega)
    exact ⟨by rw [List.length_map, hl2]; exact sl_ge _ (by omega), _, Tg.nm 6 _, (Ex.tup2 (.bin (.var (i := 6) rfl) (.con (.int 0)) t_pr1) (.binH (Hd.var (i := 2) rfl) (.bin (.var (i := 6) rfl) (.con (.int 1)) t_pr2) ⟨none, rfl⟩ (t_ixL eu))).ee ⟨w ++ [(p.1, u)], _, by rw [List.map_append]; rfl, by rw [List.length_append, hl2]; rfl, snoc_all hp2 ⟨hpr.1, hl u hu⟩, rfl⟩⟩
  · rintro Q acc ⟨w, x6, rfl, hl2, hp2, rfl⟩
    rw [List.length_map, hg.rows row hrm] at hl2
    refine ⟨_, rfl, _, _, Tg.sb (j := 3) (o := none) (xs := rs) (ys := rs) (r := a) rfl (.binH (Hd.var (i := 2) rfl) (.var (i := 4) rfl) ⟨none, rfl⟩ (t_ixL ea2)) rfl (by rw [hs.1]; exact ixN_nat (hl a ha)), rs.set a (rowD w), _, _, ?_, rfl⟩
    rw [et]
    exact hs.put (hl a ha) hl2 hp2
end
end Pw
set_option Elab.async false
set_option linter.all false
set_option maxHeartbeats 1000000
set_option maxRecDepth 100000
/-! Pw7: k42: a ring -/
namespace Pw
open PySem PySem.Spec L2 Dn Pn Qn TL
section
variable [K : KF] {P P' P1 : Qn.PE} {ma mb mc : DE} {i j k n m r s : Nat} {c c1 c2 : Cell} {o : Option Nat} {d : D} {xs ys : List D} {O : Out → Prop} {st : DS} {lo hi : Option Int} {ml mh : DO} {t : Bool}
/-- x = a new list; .. : it is known behind it -/
theorem QE.knowN (h : ExN P ma c P') (q : ∀ n (K' : KF), K'.k n = some c → (∀ n c, K.k n = some c → K'.k n = some c) → @QE K' (P'.set i (.d (.ref n))) st O) : QE P (dSeq (dAsg ma (gNm i)) st) O := QE.learnF fun f E S s => by
  obtain ⟨n, S1, e1, hn, s1⟩ := h f E S s
  have u := Sub.add (c := c) hn
  have hk := s.kn
  exact ⟨.ref n, P', S1, _, e1, s1, u, fun K' hK => q n K' (hK _ _ (Fr.add_same f)) fun n c e => hK _ _ (u _ _ (hk n c e))⟩
/-- one of a known list and a new one: known behind it -/
theorem QE.pickK (hP : P[j]? = some (.d (.ref n))) (hK : K.k n = some c1) (hb : ExN P mb c2 P) (hc : Ex P mc (.int (if t then 1 else 0)) P) (h : ∀ q c (K' : KF), c = c1 ∨ c = c2 → K'.k q = some c → (∀ n c, K.k n = some c → K'.k n = some c) → @QE K' (P.set i (.d (.ref q))) st O) :
    QE P (dSeq (dAsg (dBin vIx (dLst (aCons (dVar j) (aCons mb aNil))) mc) (gNm i)) st) O := QE.learnF fun f E S s => by
  have hv : dVar j E S = .ok (.ref n) S := by unfold dVar; rw [s.data hP]
  obtain ⟨r, S1, e1, hr, s1⟩ := hb f E S s
  have u1 := Sub.add (c := c2) hr
  have hk1 : ∀ n c, K.k n = some c → (f.add r c2) n = some c := fun n c e => u1 _ _ (s.kn n c e)
  obtain ⟨s2, hL⟩ := s1.alloc (.lst [.ref n, .ref r])
  obtain ⟨S2, e2, s3⟩ := hc _ E _ s2
  have hl : S2[S1.length]? = some (.lst [.ref n, .ref r]) := s3.addc
  have s4 := s3.unadd hL hk1
  have el : dLst (aCons (dVar j) (aCons mb aNil)) E S = .ok (.ref S1.length) (S1 ++ [.lst [.ref n, .ref r]]) := by
    unfold dLst
    rw [e_acons, hv, Dn.R.bind_ok, e_acons, e1, Dn.R.bind_ok, e_anil, Dn.R.bind_ok, Dn.R.bind_ok, Dn.R.bind_ok]
    exact mkLst_ok (show 2 ≤ sizeLine from le_sl (by decide))
  cases t with
  | false =>
    refine ⟨.ref n, P, S2, _, ?_, s4, u1, fun K' hK' => h n c1 K' (.inl rfl) (hK' _ _ (hk1 _ _ hK)) fun n c e => hK' _ _ (hk1 n c e)⟩
    rw [e_Bin, el, Dn.R.bind_ok, e2, Dn.R.bind_ok]
    exact t_ixL (i := 0) rfl _ _ hl
  | true =>
    refine ⟨.ref r, P, S2, _, ?_, s4, u1, fun K' hK' => h r c2 K' (.inr rfl) (hK' _ _ (Fr.add_same f)) fun n c e => hK' _ _ (hk1 n c e)⟩
    rw [e_Bin, el, Dn.R.bind_ok, e2, Dn.R.bind_ok]
    exact t_ixL (i := 1) rfl _ _ hl
/-- the parts of a slice -/
def PartOk (P : Qn.PE) (m : DO) (o : Option Int) : Prop := ∀ f E S, Sd f P E S → ∃ S', m E S = .ok o S' ∧ Sd f P E S'
theorem PartOk.none : PartOk P dNoPart none := fun f E S s => ⟨S, rfl, s⟩
theorem PartOk.some {u : Int} (h : Ex P ma (.int u) P) : PartOk P (dPart ma) (some u) := fun f E S s => by
  obtain ⟨S1, e1, s1⟩ := h f E S s
  exact ⟨S1, by unfold dPart; rw [e1, Dn.R.bind_ok], s1⟩
/-- a slice of a known list -/
theorem slKn (hP : P[j]? = some (.d (.ref n))) (hK : K.k n = some (.lst xs)) (h1 : PartOk P ml lo) (h2 : PartOk P mh hi) : ExN P (dSl (dVar j) ml mh) (.lst (cutD xs lo hi)) P := fun f E S s => by
  have hv : dVar j E S = .ok (.ref n) S := by unfold dVar; rw [s.data hP]
  obtain ⟨S1, e1, s1⟩ := h1 f E S s
  obtain ⟨S2, e2, s2⟩ := h2 f E S1 s1
  obtain ⟨s3, hn⟩ := s2.alloc (.lst (cutD xs lo hi))
  refine ⟨_, _, ?_, hn, s3⟩
  unfold dSl
  rw [hv, Dn.R.bind_ok, e1, Dn.R.bind_ok, e2, Dn.R.bind_ok]
  unfold vSl
  dsimp only
  rw [s2.known hK]
  rfl
theorem repL (ha : ExN P ma (.lst xs) P) (hb : Ex P mb (.int (n : Nat)) P) (hn : xs.length * n ≤ 1000) (hn2 : n ≤ 1000) : ExN P (dBin vMul ma mb) (.lst (List.replicate n xs).flatten) P :=
  .binH ha.hd hb trivial fun S q e => by
    show repLst q ((n : Nat) : Int) S = _
    unfold repLst
    rw [e]
    dsimp only
    rw [if_pos ⟨by omega, by omega, by rw [Int.toNat_natCast]; exact le_sl hn⟩, Int.toNat_natCast]
    rfl
theorem ExN.catL (ha : ExN P ma (.lst xs) P) (hb : ExN P mb (.lst ys) P) (hl : xs.length + ys.length ≤ 1000) : ExN P (dBin vAdd ma mb) (.lst (xs ++ ys)) P := .binHH ha.hd hb.hd trivial trivial (Pu.t_catL (le_sl hl))
end
/-- the straight ones, the first and the last exchanged -/
def outsD (xs : List D) (s : Nat) : List D := cutD xs (some (-1)) none ++ cutD xs (some 1) (some (-1)) ++ (List.replicate (if 1 < s then 1 else 0) (cutD xs none (some 1))).flatten
theorem cut_mem {xs : List D} {lo hi : Option Int} {x : D} (h : x ∈ cutD xs lo hi) : x ∈ xs := List.mem_of_mem_drop (List.mem_of_mem_take h)
theorem outs_ok {s : Nat} (s0 : 0 < s) : ∃ l : List Nat, outsD ((List.range s).map iD) s = l.map iD ∧ l.length = s ∧ ∀ a ∈ l, a < s := by
  have hxl : ((List.range s).map iD).length = s := by rw [List.length_map, List.length_range]
  have m1 : HT.sIx s 0 (some (-1)) = s - 1 := by
    show (if (-1 : Int) < 0 then ((-1 : Int) + (s : Int)).toNat else min (-1 : Int).toNat s) = s - 1
    rw [if_pos (by decide)]
    omega
  have m2 : HT.sIx s s (some (-1)) = s - 1 := m1
  have m3 : ∀ d, HT.sIx s d (some 1) = 1 := fun d => by
    show (if (1 : Int) < 0 then ((1 : Int) + (s : Int)).toNat else min (1 : Int).toNat s) = 1
    rw [if_neg (by decide)]
    show min 1 s = 1
    omega
  have l1 : (cutD ((List.range s).map iD) (some (-1)) none).length = 1 := by
    unfold cutD
    rw [hxl, m1, List.length_take, List.length_drop, hxl]
    show min (s - (s - 1)) (s - (s - 1)) = 1
    omega
  have l2 : (cutD ((List.range s).map iD) (some 1) (some (-1))).length = s - 2 := by
    unfold cutD
    rw [hxl, m2, m3, List.length_take, List.length_drop, hxl]
    omega
  have l3 : (cutD ((List.range s).map iD) none (some 1)).length = 1 := by
    unfold cutD
    rw [hxl, m3, List.length_take, List.length_drop, hxl]
    show min (1 - 0) (s - 0) = 1
    omega
  obtain ⟨l, e, hl⟩ := all_map (F := iD) (q := fun a => a < s) (ys := outsD ((List.range s).map iD) s) fun y hy => by
    have hy2 : y ∈ (List.range s).map iD := by
      unfold outsD at hy
      rcases List.mem_append.mp hy with hy | hy
      · rcases List.mem_append.mp hy with hy | hy
        · exact cut_mem hy
        · exact cut_mem hy
      · obtain ⟨w, hw, hy⟩ := List.mem_flatten.mp hy
        rw [(List.mem_replicate.mp hw).2] at hy
        exact cut_mem hy
    obtain ⟨a, ha, rfl⟩ := List.mem_map.mp hy2
    exact ⟨a, rfl, List.mem_range.mp ha⟩
  refine ⟨l, e, ?_, hl⟩
  have e2 := congrArg List.length e
  rw [List.length_map] at e2
  rw [← e2]
  unfold outsD
  rw [List.length_append, List.length_append, l1, l2]
  by_cases h : 1 < s
  · rw [if_pos h]
    simp [l3]
    omega
  · rw [if_neg h]
    simp
    omega
section
variable {b s : Nat} {c : Cell} {S : Store}
noncomputable def FRing : DF := trimF (dDef 2 8 (K42.den__law_ringed FTake FRenum))
def qP (b s : Nat) (c : Cell) (x2 x3 x4 x5 x6 x7 : PV) : Qn.PE := [.c (some b) c, .d (.int (s : Nat)), x2, x3, x4, x5, x6, x7]
theorem ring_ok (s0 : 0 < s) (s9 : s ≤ 20) (hn : S[b]? = some c) (hb : IsBox c) : ∃ v c', (IsBox c' ∧ ∃ m g, 0 < m ∧ m ≤ 10 ∧ v = gateD g ∧ Rg s m g) ∧ FRing [.ref b, .int (s : Nat)] S = .ok v (S.set b c') := by
  refine fn_boxD (vs := [.int (s : Nat)]) (n := b) (a := 2) (k := 8) (G := fun v c' => IsBox c' ∧ ∃ m g, 0 < m ∧ m ≤ 10 ∧ v = gateD g ∧ Rg s m g) rfl hn ?_
  have fin : ∀ {v P' c'}, P'[0]? = some (.c (some b) c') → IsBox c' → (∃ m g, 0 < m ∧ m ≤ 10 ∧ v = gateD g ∧ Rg s m g) → ∃ v2 P2 c2, Out.rt v P' = .rt v2 P2 ∧ P2[0]? = some (.c (some b) c2) ∧ D.lt 0 v2 = true ∧ c2.lt 0 = true ∧ IsBox c2 ∧ ∃ m g, 0 < m ∧ m ≤ 10 ∧ v2 = gateD g ∧ Rg s m g := fun {v P' c'} h0 hb ⟨m, g, h1, h2, h3, h4⟩ => ⟨v, P', c', rfl, h0, by rw [h3]; exact gate_lt 0 g, hb.lt 0, hb, m, g, h1, h2, h3, h4⟩
  show QE (qP b s c .any .any .any .any .any .any) _ _
  unfold K42.den__law_ringed
  refine QE.seqN (QE.tupM (is := [2, 3]) (EM.cons (R1 := fun v P1 => ∃ (q : Nat) (c1 : Cell), q < 7 ∧ IsBox c1 ∧ v = .int ((2 + q : Nat) : Int) ∧ P1 = qP b s c1 .any .any .any .any .any .any)
    (EE.bin ((Ex.con (.int 2)).ee (R := fun v P1 => v = .int 2 ∧ P1 = qP b s c .any .any .any .any .any .any) ⟨rfl, rfl⟩) (by
      rintro _ _ ⟨rfl, rfl⟩
      exact .draw (m := 7) (i := 0) rfl (.con _) rfl hb (by decide) (by decide) fun q c1 hq hc1 => ⟨.int ((2 + q : Nat) : Int), fun S => by rw [t_add]; congr 2, q, c1, hq, hc1, rfl, rfl⟩)) ?_))
  rintro _ _ ⟨q, c1, hq, hc1, rfl, rfl⟩
  obtain ⟨m, hm⟩ : ∃ m, m = 2 + q := ⟨_, rfl⟩
  rw [← hm]
  refine EM.consN (Rc := fun cz P1 => cz = .lst [] ∧ P1 = qP b s c1 .any .any .any .any .any .any) (ExN.nil.en ⟨rfl, rfl⟩) ?_
  rintro _ _ ⟨rfl, rfl⟩
  refine EM.nil ⟨rfl, le_sl (show 2 ≤ 1000 by decide), _, rfl, ?_⟩
  show QE (qP b s c1 (.d (.int (m : Nat))) (.c none (.lst [])) .any .any .any .any) _ _
  have est := ExN.listRg (r := s) (P := qP b s c1 (.d (.int (m : Nat))) (.c none (.lst [])) .any .any .any .any) (.var (i := 1) rfl) (by omega)
  rw [rng_iD] at est
  refine QE.knowN est fun n K' hK _ => ?_
  show QE (qP b s c1 (.d (.int (m : Nat))) (.c none (.lst [])) (.d (.ref n)) .any .any .any) _ _
  refine QE.seqN (QE.forI (fun r P => ∃ g x5 x6, (List.length g = r ∧ (∀ r ∈ g, List.length r = s) ∧ ∀ r ∈ g, ∀ p ∈ r, p.1 < s ∧ p.2 < m) ∧ P = qP b s c1 (.d (.int (m : Nat))) (.c none (.lst (g.map rowD))) (.d (.ref n)) x5 x6 .any) (It.range (r := m) (.var (i := 2) rfl) (by omega)) ⟨[], _, _, ⟨rfl, (fun r h => nomatch h), (fun r h => nomatch h)⟩, rfl⟩ (fun _ _ _ => trivial) ?_ ?_)
  · rintro P ⟨g, x5, x6, hg, rfl⟩
    rw [rng_len] at hg
    refine ⟨_, rfl, QE.ret (EE.boxed (i := 0) rfl (ExA.ea (.one (Ex.tupleH (Hd.var (i := 3) rfl) ⟨none, rfl⟩)) ⟨c1, rfl, fun S n hn => ?_⟩))⟩
    obtain ⟨v, c', ⟨hc', g2, rfl, hg2⟩, e⟩ := renum_ok (g := g) ⟨hg.1, hg.2.1, hg.2.2⟩ (by omega) s9 hn hc1
    exact ⟨_, c', fin rfl hc' ⟨m, g2, by omega, by omega, rfl, hg2⟩, e⟩
  rintro r x P hx ⟨g, x5, x6, hg, rfl⟩
  obtain ⟨hr, rfl⟩ := rng_get hx
  refine ⟨[5], _, Tg.nm 5 _, ?_⟩
  have hgl := hg.1
  show QE (qP b s c1 (.d (.int (m : Nat))) (.c none (.lst (g.map rowD))) (.d (.ref n)) (.d (.int (r : Nat))) x6 .any) _ _
  obtain ⟨lo, elo, llo, hlo⟩ := outs_ok s0
  have hxl : ((List.range s).map iD).length = s := by rw [List.length_map, List.length_range]
  have cl : ∀ lo hi, (cutD ((List.range s).map iD) lo hi).length ≤ s := fun lo hi => by
    unfold cutD
    rw [List.length_take, List.length_drop, hxl]
    omega
  have sw : ExN (qP b s c1 (.d (.int (m : Nat))) (.c none (.lst (g.map rowD))) (.d (.ref n)) (.d (.int (r : Nat))) x6 .any) (dBin vAdd (dBin vAdd (dSl (dVar 4) (dPart (dUn vNeg (dC (.int 1)))) dNoPart) (dSl (dVar 4) (dPart (dC (.int 1))) (dPart (dUn vNeg (dC (.int 1)))))) (dBin vMul (dSl (dVar 4) dNoPart (dPart (dC (.int 1)))) (dCall bInt (aCons (dBin vGt (dVar 1) (dC (.int 1))) aNil)))) (.lst (outsD ((List.range s).map iD) s)) (qP b s c1 (.d (.int (m : Nat))) (.c none (.lst (g.map rowD))) (.d (.ref n)) (.d (.int (r : Nat))) x6 .any) := by
    have neg : Ex (qP b s c1 (.d (.int (m : Nat))) (.c none (.lst (g.map rowD))) (.d (.ref n)) (.d (.int (r : Nat))) x6 .any) (dUn vNeg (dC (.int 1))) (.int (-1)) (qP b s c1 (.d (.int (m : Nat))) (.c none (.lst (g.map rowD))) (.d (.ref n)) (.d (.int (r : Nat))) x6 .any) := .un (.con _) fun S => rfl
    have ei : Ex (qP b s c1 (.d (.int (m : Nat))) (.c none (.lst (g.map rowD))) (.d (.ref n)) (.d (.int (r : Nat))) x6 .any) (dCall bInt (aCons (dBin vGt (dVar 1) (dC (.int 1))) aNil)) (.int (((if 1 < s then 1 else 0 : Nat)) : Int)) (qP b s c1 (.d (.int (m : Nat))) (.c none (.lst (g.map rowD))) (.d (.ref n)) (.d (.int (r : Nat))) x6 .any) := by
      have e := Ex.intB (Ex.bin (P := qP b s c1 (.d (.int (m : Nat))) (.c none (.lst (g.map rowD))) (.d (.ref n)) (.d (.int (r : Nat))) x6 .any) (.var (i := 1) rfl) (.con (.int 1)) (t_cmp (p := fun i j => decide (j < i))))
      by_cases h : 1 < s
      · rw [if_pos (decide_eq_true (by omega))] at e
        rw [if_pos h]
        exact e
      · rw [if_neg (fun q => h (by have := of_decide_eq_true q; omega))] at e
        rw [if_neg h]
        exact e
    have k1 := cl (some (-1)) none
    have k2 := cl (some 1) (some (-1))
    have k3 := cl none (some 1)
    have hi01 : (if 1 < s then 1 else 0 : Nat) ≤ 1 := by split <;> omega
    have k4 : (cutD ((List.range s).map iD) none (some 1)).length * (if 1 < s then 1 else 0 : Nat) ≤ 20 := Nat.le_trans (Nat.mul_le_mul k3 hi01) (by omega)
    have k5 : ((List.replicate (if 1 < s then 1 else 0) (cutD ((List.range s).map iD) none (some 1))).flatten).length ≤ 20 := by
      rw [List.length_flatten, List.map_replicate, List.sum_replicate_nat]
      rw [Nat.mul_comm]
      exact k4
    exact ExN.catL (ExN.catL (slKn (j := 4) rfl hK (.some neg) .none) (slKn (j := 4) rfl hK (.some (.con _)) (.some neg)) (by omega)) (repL (slKn (j := 4) rfl hK .none (.some (.con _))) ei (by omega) (by omega)) (by rw [List.length_append]; omega)
  rw [elo] at sw
  have hidx := Ex.intB (Ex.bin (P := qP b s c1 (.d (.int (m : Nat))) (.c none (.lst (g.map rowD))) (.d (.ref n)) (.d (.int (r : Nat))) x6 .any) (.var (i := 5) rfl) (.con (.int 0)) t_eqI)
  refine QE.pickK (j := 4) (i := 6) rfl hK sw hidx fun p cz K2 hcz hK2 _ => ?_
  obtain ⟨l, rfl, hll, hlm⟩ : ∃ l : List Nat, cz = .lst (l.map iD) ∧ l.length = s ∧ ∀ a ∈ l, a < s := by
    rcases hcz with rfl | rfl
    · exact ⟨List.range s, rfl, List.length_range, fun a ha => List.mem_range.mp ha⟩
    · exact ⟨lo, rfl, llo, hlo⟩
  show QE (qP b s c1 (.d (.int (m : Nat))) (.c none (.lst (g.map rowD))) (.d (.ref n)) (.d (.int (r : Nat))) (.d (.ref p)) .any) _ _
  refine QE.drop (EE.append (j := 3) rfl (EE.tupleN (EN.lcE (ws := [7]) (fun i P acc => ∃ (w : List (Nat × Nat)) (x7 : PV), acc = w.map pairD ∧ w.length = i ∧ (∀ p ∈ w, p.1 < s ∧ p.2 < m) ∧ P = qP b s c1 (.d (.int (m : Nat))) (.c none (.lst (g.map rowD))) (.d (.ref n)) (.d (.int (r : Nat))) (.d (.ref p)) x7) (It.lstKn (it := iVal (dVar 6)) (xs := l.map iD) (.var (i := 6) rfl) hK2) ⟨[], _, rfl, rfl, (fun p h => nomatch h), rfl⟩ (fun _ _ _ _ => trivial) ?_ ?_)))
  · rintro i x P acc hx ⟨w, x7, rfl, hl2, hp2, rfl⟩
    rw [List.getElem?_map] at hx
    obtain ⟨a, ha, rfl⟩ := Option.map_eq_some_iff.mp hx
    have hi := (List.getElem?_eq_some_iff.mp ha).1
    refine ⟨by rw [List.length_map, hl2]; exact sl_ge _ (by omega), _, Tg.nm 7 _, (Ex.tup2 (.var (i := 7) rfl) (.bin (.bin (.var (i := 5) rfl) (.con (.int ((1 : Nat) : Int))) t_addM) (.var (i := 2) rfl) (t_modN (by omega)))).ee ⟨w ++ [(a, (r + 1) % m)], _, by rw [List.map_append]; rfl, by rw [List.length_append, hl2]; rfl, snoc_all hp2 ⟨hlm a (List.mem_of_getElem? ha), Nat.mod_lt _ (by omega)⟩, rfl⟩⟩
  · rintro Q acc ⟨w, x7, rfl, hl2, hp2, rfl⟩
    rw [List.length_map, hll] at hl2
    exact ⟨_, rfl, g.map rowD, rfl, by rw [List.length_map, hgl]; exact sl_ge _ (by omega), g ++ [w], _, _, Rg.snoc hg hl2 hp2, by rw [List.map_append]; rfl⟩
end
end Pw
set_option Elab.async false
set_option linter.all false
set_option maxHeartbeats 1000000
set_option maxRecDepth 100000
/-! Pw8: k42: a gate of which marks are alike; any gate -/
namespace Pw
open PySem PySem.Spec L2 Dn Pn Qn TL
section
variable [K : KF] {P P' P1 : Qn.PE} {ma mb mc : DE} {i j k n m r s b : Nat} {c c1 c2 : Cell} {o : Option Nat} {d : D} {xs ys : List D} {O : Out → Prop} {st : DS} {R : D → Qn.PE → Prop} {S : Store}
/-- 1 + a number below m -/
theorem onePlus (hi : P[i]? = some (.c o c)) (hm : Ex P ma (.int (m : Nat)) P) (hb : IsBox c) (h1 : 0 < m) (h2 : m ≤ 1000000) (hr : ∀ (d : Nat) (c' : Cell), d < m → IsBox c' → R (.int ((1 + d : Nat) : Int)) (P.set i (.c o c'))) : EE P (dBin vAdd (dC (.int 1)) (dCall FTake (aCons (dVar i) (aCons ma aNil)))) R :=
  .bin ((Ex.con _).ee (R := fun v P' => v = .int 1 ∧ P' = P) ⟨rfl, rfl⟩) (by
    rintro _ _ ⟨rfl, rfl⟩
    exact .draw hi hm hi hb h1 h2 fun d c' hd hc' => ⟨_, fun S => by rw [t_add]; congr 2, hr d c' hd hc'⟩)
theorem gate4E (hi : P[i]? = some (.c o c)) (hs : Ex P ma (.int (s : Nat)) P) (hm : Ex P mb (.int (m : Nat)) P) (hb : IsBox c) (s0 : 0 < s) (m0 : 0 < m) (s9 : s ≤ 20) (m9 : m ≤ 50) (hr : ∀ g c', Rg s m g → IsBox c' → R (gateD g) (P.set i (.c o c'))) : EE P (dCall FGate4 (aCons (dVar i) (aCons ma (aCons mb aNil)))) R :=
  EE.boxed hi (ExA.ea (.two hs hm) ⟨c, hi, fun S n hn => by
    obtain ⟨v, c', ⟨hc', g, rfl, hg⟩, e⟩ := gate4_ok s0 m0 s9 m9 hn hb
    exact ⟨_, c', hr g c' hg hc', e⟩⟩)
end
section
variable {b s few times : Nat} {c : Cell} {S : Store}
noncomputable def FTwin : DF := trimF (dDef 2 13 (K42.den__law_twinned FTake FMixed FGate4))
def yP (b s few times : Nat) (g : Gate) (l : List Nat) (rs : List D) (c : Cell) (x7 x8 x9 x10 x11 x12 : PV) : Qn.PE := [.c (some b) c, .d (.int (s : Nat)), .d (.int (few : Nat)), .d (.int (times : Nat)), .d (gateD g), .c none (.lst (l.map iD)), .c none (.lst rs), x7, x8, x9, x10, x11, x12]
theorem twin_ok (s0 : 0 < s) (s9 : s ≤ 20) (hn : S[b]? = some c) (hb : IsBox c) : ∃ v c', (IsBox c' ∧ ∃ m g, 0 < m ∧ m ≤ 10 ∧ v = gateD g ∧ Rg s m g) ∧ FTwin [.ref b, .int (s : Nat)] S = .ok v (S.set b c') := by
  refine fn_boxD (vs := [.int (s : Nat)]) (n := b) (a := 2) (k := 13) (G := fun v c' => IsBox c' ∧ ∃ m g, 0 < m ∧ m ≤ 10 ∧ v = gateD g ∧ Rg s m g) rfl hn ?_
  show QE [.c (some b) c, .d (.int (s : Nat)), .any, .any, .any, .any, .any, .any, .any, .any, .any, .any, .any] _ _
  unfold K42.den__law_twinned
  refine QE.seqN (QE.asg (onePlus (m := 3) (i := 0) rfl (.con _) hb (by decide) (by decide) fun d1 c1 hd1 hc1 => ⟨_, rfl, ?_⟩))
  obtain ⟨few, hfew⟩ : ∃ few, few = 1 + d1 := ⟨_, rfl⟩
  rw [← hfew]
  show QE [.c (some b) c1, .d (.int (s : Nat)), .d (.int (few : Nat)), .any, .any, .any, .any, .any, .any, .any, .any, .any, .any] _ _
  have h8 : 0 < 8 / few := Nat.div_pos (by omega) (by omega)
  refine QE.seqN (QE.asg (onePlus (m := 8 / few) (i := 0) rfl (.bin (.con (.int ((8 : Nat) : Int))) (.var (i := 2) rfl) (t_divN (by omega) (by omega))) hc1 h8 (by have := Nat.div_le_self 8 few; omega) fun d2 c2 hd2 hc2 => ⟨_, rfl, ?_⟩))
  obtain ⟨times, htm⟩ : ∃ times, times = 1 + d2 := ⟨_, rfl⟩
  rw [← htm]
  show QE [.c (some b) c2, .d (.int (s : Nat)), .d (.int (few : Nat)), .d (.int (times : Nat)), .any, .any, .any, .any, .any, .any, .any, .any, .any] _ _
  obtain ⟨M, hM⟩ : ∃ M, M = few * times := ⟨_, rfl⟩
  have hM8 : M ≤ 8 := by
    have h1 : times ≤ 8 / few := by omega
    have h2 := Nat.mul_le_mul_left few h1
    have h3 := Nat.mul_div_le 8 few
    omega
  have ht8 : times ≤ 8 := by have := Nat.div_le_self 8 few; omega
  have hM0 : 0 < M := by rw [hM]; exact Nat.mul_pos (by omega) (by omega)
  refine QE.seqN (QE.par (EM.cons (R1 := fun v P1 => ∃ g c3, Rg s few g ∧ IsBox c3 ∧ v = gateD g ∧ P1 = [.c (some b) c3, .d (.int (s : Nat)), .d (.int (few : Nat)), .d (.int (times : Nat)), .any, .any, .any, .any, .any, .any, .any, .any, .any]) (gate4E (i := 0) rfl (.var (i := 1) rfl) (.var (i := 2) rfl) hc2 s0 (by omega) s9 (by omega) fun g c3 hg hc3 => ⟨g, c3, hg, hc3, rfl, rfl⟩) ?_))
  rintro _ _ ⟨g, c3, hg, hc3, rfl, rfl⟩
  have emul : Ex [.c (some b) c3, .d (.int (s : Nat)), .d (.int (few : Nat)), .d (.int (times : Nat)), .any, .any, .any, .any, .any, .any, .any, .any, .any] (dBin vMul (dVar 2) (dVar 3)) (.int (M : Nat)) [.c (some b) c3, .d (.int (s : Nat)), .d (.int (few : Nat)), .d (.int (times : Nat)), .any, .any, .any, .any, .any, .any, .any, .any, .any] := by
    rw [hM]
    exact .bin (.var (i := 2) rfl) (.var (i := 3) rfl) (t_mulM (by omega))
  refine EM.consN (Rc := fun cz P1 => ∃ (l : List Nat) (c4 : Cell), l.length = M ∧ (∀ a ∈ l, a < M) ∧ (l.map iD).Perm ((List.range M).map iD) ∧ IsBox c4 ∧ cz = .lst (l.map iD) ∧ P1 = [.c (some b) c4, .d (.int (s : Nat)), .d (.int (few : Nat)), .d (.int (times : Nat)), .any, .any, .any, .any, .any, .any, .any, .any, .any]) (mixN (i := 0) rfl emul (by omega) hc3 fun l c4 h1 h2 h3 h4 => ⟨l, c4, h1, h2, h3, h4, rfl, rfl⟩) ?_
  rintro _ _ ⟨l, c4, ll, hlm, hp, hc4, rfl, rfl⟩
  refine EM.nil ⟨rfl, _, rfl, ?_⟩
  show QE [.c (some b) c4, .d (.int (s : Nat)), .d (.int (few : Nat)), .d (.int (times : Nat)), .d (gateD g), .c none (.lst (l.map iD)), .any, .any, .any, .any, .any, .any, .any] _ _
  have emul2 : Ex [.c (some b) c4, .d (.int (s : Nat)), .d (.int (few : Nat)), .d (.int (times : Nat)), .d (gateD g), .c none (.lst (l.map iD)), .any, .any, .any, .any, .any, .any, .any] (dBin vMul (dVar 2) (dVar 3)) (.int (M : Nat)) [.c (some b) c4, .d (.int (s : Nat)), .d (.int (few : Nat)), .d (.int (times : Nat)), .d (gateD g), .c none (.lst (l.map iD)), .any, .any, .any, .any, .any, .any, .any] := by
    rw [hM]
    exact .bin (.var (i := 2) rfl) (.var (i := 3) rfl) (t_mulM (by omega))
  refine QE.seqS (P1 := yP b s few times g l (List.replicate M (.tup [])) c4 .any .any .any .any .any .any) (.asgN (repN (Ex.tup .nil (Nat.zero_le _)) emul2 (by omega))) ?_
  refine QE.seqN (QE.forI (fun r P => ∃ rs c x7 x8 x9 x10 x11 x12, IsBox c ∧ Set_ s M (l.take (times * r)) rs ∧ P = yP b s few times g l rs c x7 x8 x9 x10 x11 x12) (It.range (r := few) (.var (i := 2) rfl) (by omega)) ⟨_, c4, _, _, _, _, _, _, hc4, ⟨List.length_replicate .., fun i hi => by rw [Nat.mul_zero] at hi; exact nomatch hi⟩, rfl⟩ (fun _ _ _ => trivial) ?_ ?_)
  · rintro P ⟨rs, c, x7, x8, x9, x10, x11, x12, hc, hs, rfl⟩
    rw [rng_len, Nat.mul_comm, ← hM, ← ll, List.take_length] at hs
    rw [ll] at hs
    obtain ⟨g2, e, h2⟩ := hs.gate fun i hi => perm_all hp hi
    have ef := QS.ret (Ex.tupleH (P := yP b s few times g l rs c x7 x8 x9 x10 x11 x12) (Hd.var (i := 6) rfl) ⟨none, rfl⟩)
    rw [e] at ef
    exact ⟨_, rfl, ef.qe ⟨_, _, c, rfl, rfl, gate_lt 0 g2, hc.lt 0, hc, M, g2, hM0, by omega, rfl, h2⟩⟩
  rintro r x P hx ⟨rs, c, x7, x8, x9, x10, x11, x12, hc, hs, rfl⟩
  obtain ⟨hr, rfl⟩ := rng_get hx
  refine ⟨[7], _, Tg.nm 7 _, ?_⟩
  refine QE.pre (P1 := yP b s few times g l rs c (.d (.int (r : Nat))) .any x9 x10 x11 x12) ?_ (fun f E S t => t.forget 8)
  refine QE.lcK (ws := [8]) (fun _ P => ∃ c x8, IsBox c ∧ P = yP b s few times g l rs c (.d (.int (r : Nat))) x8 x9 x10 x11 x12) (fun _ cz => ∃ w : List Nat, cz = .lst (w.map iD) ∧ w.length = times ∧ ∀ a ∈ w, a < times) (It.range (r := s) (.var (i := 1) rfl) (by omega)) ⟨c, _, hc, rfl⟩ (by rw [rng_len]; exact le_sl (by omega)) (fun _ _ _ => trivial) ?_ ?_
  · rintro i x P hx ⟨c, x8, hc, rfl⟩
    exact ⟨_, Tg.nm 8 _, mixN (i := 0) rfl (.var (i := 3) rfl) (by omega) hc fun w c2 h1 h2 _ h3 => ⟨⟨w, rfl, h1, h2⟩, c2, _, h3, rfl⟩⟩
  intro zs Q n K' hzl hzp hQ hkn hkz _
  obtain ⟨c5, x8, hc5, rfl⟩ := hQ
  rw [rng_len] at hzl
  show QE (yP b s few times g l rs c5 (.d (.int (r : Nat))) .any (.d (.ref n)) x10 x11 x12) _ _
  have turn : ∀ i < s, ∃ z w, zs[i]? = some z ∧ K'.k z.1 = some (.lst (List.map iD w)) ∧ w.length = times ∧ ∀ a ∈ w, a < times := fun i hi => by
    have e := List.getElem?_eq_getElem (l := zs) (i := i) (by omega)
    obtain ⟨w, h1, h2, h3⟩ := hzp i _ e
    exact ⟨_, w, e, by rw [hkz _ (List.getElem_mem (by omega)), h1], h2, h3⟩
  obtain ⟨row, hrow⟩ : ∃ row, g[r]? = some row := ⟨_, List.getElem?_eq_getElem (by rw [hg.len]; exact hr)⟩
  have hrm := List.mem_of_getElem? hrow
  refine QE.forI (fun t P => ∃ rs x8 x10 x11 x12, Set_ s M (l.take (times * r + t)) rs ∧ P = yP b s few times g l rs c5 (.d (.int (r : Nat))) x8 (.d (.ref n)) x10 x11 x12) (It.range (r := times) (.var (i := 3) rfl) (by omega)) ⟨rs, _, _, _, _, hs, rfl⟩ (fun _ _ _ => trivial) ?_ ?_
  · rintro P ⟨rs, x8, x10, x11, x12, hs, rfl⟩
    rw [rng_len, ← Nat.mul_succ] at hs
    exact ⟨rs, c5, _, _, _, _, _, _, hc5, hs, rfl⟩
  rintro t x P hx ⟨rs, x8, x10, x11, x12, hs, rfl⟩
  obtain ⟨ht, rfl⟩ := rng_get hx
  refine ⟨[10], _, Tg.nm 10 _, ?_⟩
  refine QE.seqS (.asgN .nil) ?_
  show QE (yP b s few times g l rs c5 (.d (.int (r : Nat))) x8 (.d (.ref n)) (.d (.int (t : Nat))) (.c none (.lst [])) x12) _ _
  have pos : ∀ {u v : Nat}, u < few → v < times → times * u + v < M := fun {u v} hu hv => by
    rw [hM, Nat.mul_comm few]
    have := Nat.mul_le_mul_left times (Nat.succ_le_of_lt hu)
    rw [Nat.mul_succ] at this
    omega
  refine QE.seqN (QE.forI (fun i P => ∃ (w : List (Nat × Nat)) (x8 x12 : PV), w.length = i ∧ (∀ p ∈ w, p.1 < s ∧ p.2 < M) ∧ P = yP b s few times g l rs c5 (.d (.int (r : Nat))) x8 (.d (.ref n)) (.d (.int (t : Nat))) (.c none (.lst (w.map pairD))) x12) (It.enum (xs := row.map pairD) (.bin (.var (i := 4) (v := gateD g) rfl) (.var (i := 7) rfl) (t_ixT (by rw [List.getElem?_map, hrow]; rfl)))) ⟨[], _, _, rfl, (fun p h => nomatch h), rfl⟩ (fun _ _ _ => trivial) ?_ ?_)
  · rintro P ⟨w, x8, x12, hl2, hp2, rfl⟩
    rw [enumD_length, List.length_map, hg.rows row hrm] at hl2
    refine ⟨_, rfl, ?_⟩
    obtain ⟨a, ha, ea, ea2⟩ := get_iD (l := l) (r := times * r + t) (by rw [ll]; exact pos hr ht)
    refine (QS.asgT (Ex.tupleH (Hd.var (i := 11) (c := .lst (w.map pairD)) (o := none) rfl) ⟨none, rfl⟩) (Tg.sb (j := 6) (o := none) (xs := rs) (ys := rs) (r := a) rfl (.binH (Hd.var (i := 5) rfl) (.bin (.bin (.var (i := 3) rfl) (.var (i := 7) rfl) (t_mulM (by omega))) (.var (i := 10) rfl) t_addM) ⟨none, rfl⟩ (t_ixL ea2)) rfl (by rw [hs.1]; exact ixN_nat (hlm a ha)))).qe ⟨rs.set a (rowD w), x8, _, _, _, ?_, rfl⟩
    have et : l.take (times * r + (t + 1)) = l.take (times * r + t) ++ [a] := by rw [← Nat.add_assoc, List.take_add_one, ea]; rfl
    rw [et]
    exact hs.put (hlm a ha) hl2 hp2
  rintro i x P hx ⟨w, x8, x12, hl2, hp2, rfl⟩
  obtain ⟨y, hy, rfl⟩ := enum_get hx
  obtain ⟨p, hp3, rfl⟩ := map_get hy
  have hpr := hg.rng row hrm p (List.mem_of_getElem? hp3)
  have hil : i < s := by rw [← hg.rows row hrm]; exact (List.getElem?_eq_some_iff.mp hp3).1
  obtain ⟨z, wl, hz, hk, hll, hlm2⟩ := turn i hil
  obtain ⟨v, hv, _, ev⟩ := get_iD (l := wl) (r := t) (by omega)
  obtain ⟨u, hu, _, eu⟩ := get_iD (l := l) (r := times * p.2 + v) (by rw [ll]; exact pos hpr.2 (hlm2 v hv))
  refine ⟨[8, 12], _, Tg.tp2 8 12 _ _, ?_⟩
  show QE (yP b s few times g l rs c5 (.d (.int (r : Nat))) (.d (.int (i : Nat))) (.d (.ref n)) (.d (.int (t : Nat))) (.c none (.lst (w.map pairD))) (.d (pairD p))) _ _
  refine (QS.append (j := 11) (v := pairD (p.1, u)) rfl (Ex.tup2 (.bin (.var (i := 12) rfl) (.con (.int 0)) (t_pr1 (p := p))) (.binH (Hd.var (i := 5) rfl) (.bin (.bin (.var (i := 3) rfl) (.bin (.var (i := 12) rfl) (.con (.int 1)) (t_pr2 (p := p))) (t_mulM (by omega))) (Ex.ixKn (Ex.ixKn (xs := zs.map zRef) (.var (i := 9) rfl) (.var (i := 8) rfl) hkn (by rw [List.getElem?_map, hz]; rfl)) (.var (i := 10) rfl) hk ev) t_addM) ⟨none, rfl⟩ (t_ixL eu))) rfl (by rw [List.length_map, hl2]; exact sl_ge _ (by omega))).qe ⟨w ++ [(p.1, u)], .d (.int (i : Nat)), .d (pairD p), by rw [List.length_append, hl2]; rfl, snoc_all hp2 ⟨hpr.1, hlm u hu⟩, ?_⟩
  rw [List.map_append]
  rfl
end
end Pw
set_option Elab.async false
set_option linter.all false
set_option maxHeartbeats 1000000
set_option maxRecDepth 100000
/-! Pw9: k42: any gate -/
namespace Pw
open PySem PySem.Spec L2 Dn Pn Qn TL
section
variable {b s m : Nat} {c : Cell} {S : Store}
/-- a gate as it is drawn -/
def GV (s : Nat) (v : D) : Prop := ∃ m g, 0 < m ∧ m ≤ 10 ∧ v = gateD g ∧ Rg s m g
theorem GV.lt {v : D} (h : GV s v) : D.lt 0 v = true := by
  obtain ⟨m, g, _, _, rfl, _⟩ := h
  exact gate_lt 0 g
noncomputable def FAny4 : DF := trimF (dDef 2 3 (K42.den__law_any_gate FTake FTwin FRing FGate4))
theorem any4_ok (s0 : 0 < s) (s9 : s ≤ 20) (hn : S[b]? = some c) (hb : IsBox c) : ∃ v c', (IsBox c' ∧ GV s v) ∧ FAny4 [.ref b, .int (s : Nat)] S = .ok v (S.set b c') := by
  refine fn_boxD (vs := [.int (s : Nat)]) (n := b) (a := 2) (k := 3) (G := fun v c' => IsBox c' ∧ GV s v) rfl hn ?_
  have fin : ∀ {v P' c'}, P'[0]? = some (.c (some b) c') → IsBox c' → GV s v → ∃ v2 P2 c2, Out.rt v P' = .rt v2 P2 ∧ P2[0]? = some (.c (some b) c2) ∧ D.lt 0 v2 = true ∧ c2.lt 0 = true ∧ IsBox c2 ∧ GV s v2 := fun {v P' c'} h0 hb hv => ⟨v, P', c', rfl, h0, hv.lt, hb.lt 0, hb, hv⟩
  show QE [.c (some b) c, .d (.int (s : Nat)), .any] _ _
  unfold K42.den__law_any_gate
  refine QE.seqN (QE.asg (.draw (m := 3) (i := 0) rfl (.con _) rfl hb (by decide) (by decide) fun q c1 hq hc1 => ⟨_, rfl, ?_⟩))
  show QE [.c (some b) c1, .d (.int (s : Nat)), .d (.int (q : Nat))] _ _
  have tf : ∀ z : Int, ExB [.c (some b) c1, .d (.int (s : Nat)), .d (.int (q : Nat))] (dTest (dBin vEq (dVar 2) (dC (.int z)))) (decide (((q : Nat) : Int) = z)) [.c (some b) c1, .d (.int (s : Nat)), .d (.int (q : Nat))] := fun z => .test (.bin (.var (i := 2) rfl) (.con _) t_eqI)
  have one : ∀ {F : DF}, (∀ (S : Store) (n : Nat), S[n]? = some c1 → ∃ v c', (IsBox c' ∧ GV s v) ∧ F [.ref n, .int (s : Nat)] S = .ok v (S.set n c')) → QE [.c (some b) c1, .d (.int (s : Nat)), .d (.int (q : Nat))] (dRet (dCall F (aCons (dVar 0) (aCons (dVar 1) aNil)))) (fun o => ∃ v2 P2 c2, o = .rt v2 P2 ∧ P2[0]? = some (.c (some b) c2) ∧ D.lt 0 v2 = true ∧ c2.lt 0 = true ∧ IsBox c2 ∧ GV s v2) := fun {F} hF => QE.ret (EE.boxed (i := 0) rfl (ExA.ea (.one (.var (i := 1) rfl)) ⟨c1, rfl, fun S n hn => by
    obtain ⟨v, c', ⟨hc', hv⟩, e⟩ := hF S n hn
    exact ⟨v, c', fin rfl hc' hv, e⟩⟩))
  by_cases h0 : q = 0
  · have t0 := tf 0
    rw [decide_eq_true (by omega)] at t0
    refine QE.seq ((QE.ite (Rb := fun b' P' => b' = true ∧ P' = [.c (some b) c1, .d (.int (s : Nat)), .d (.int (q : Nat))]) (t0.eb ⟨rfl, rfl⟩) ?_ (fun P1 h => by cases h.1)).mono fun o ho => .inr ⟨?_, ho⟩)
    · rintro _ ⟨_, rfl⟩
      exact one fun S n hn => twin_ok s0 s9 hn hc1
    · obtain ⟨_, _, _, rfl, _⟩ := ho
      rfl
  have t0 := tf 0
  rw [decide_eq_false (by omega)] at t0
  refine QE.seqS (.ifF t0 .next) ?_
  by_cases h2 : q = 2
  · have t2 := tf 2
    rw [decide_eq_true (by omega)] at t2
    refine QE.seq ((QE.ite (Rb := fun b' P' => b' = true ∧ P' = [.c (some b) c1, .d (.int (s : Nat)), .d (.int (q : Nat))]) (t2.eb ⟨rfl, rfl⟩) ?_ (fun P1 h => by cases h.1)).mono fun o ho => .inr ⟨?_, ho⟩)
    · rintro _ ⟨_, rfl⟩
      exact one fun S n hn => ring_ok s0 s9 hn hc1
    · obtain ⟨_, _, _, rfl, _⟩ := ho
      rfl
  have t2 := tf 2
  rw [decide_eq_false (by omega)] at t2
  refine QE.seqS (.ifF t2 .next) ?_
  refine QE.ret (EE.boxed (i := 0) rfl (EA.cons (R1 := fun v P1 => v = .int (s : Nat) ∧ P1 = [.c (some b) c1, .d (.int (s : Nat)), .d (.int (q : Nat))]) ((Ex.var (i := 1) rfl).ee ⟨rfl, rfl⟩) ?_))
  rintro _ _ ⟨rfl, rfl⟩
  refine EA.cons (R1 := fun v P1 => ∃ (m : Nat) (c2 : Cell), 0 < m ∧ m ≤ 8 ∧ IsBox c2 ∧ v = .int (m : Nat) ∧ P1 = [.c (some b) c2, .d (.int (s : Nat)), .d (.int (q : Nat))]) (onePlus (m := 8) (i := 0) rfl (.con _) hc1 (by decide) (by decide) fun d c2 hd hc2 => ⟨1 + d, c2, by omega, by omega, hc2, rfl, rfl⟩) ?_
  rintro _ _ ⟨m, c2, m0, m8, hc2, rfl, rfl⟩
  refine EA.nil ⟨c2, rfl, fun S n hn => ?_⟩
  obtain ⟨v, c', ⟨hc', g, rfl, hg⟩, e⟩ := gate4_ok s0 m0 s9 (by omega) hn hc2
  exact ⟨_, c', fin rfl hc' ⟨m, g, m0, by omega, rfl, hg⟩, e⟩
end
end Pw
set_option Elab.async false
set_option linter.all false
set_option maxHeartbeats 1000000
set_option maxRecDepth 100000
/-! Pk1: marks numbered by an equivalence, by their first ones -/
namespace Pk
def fIx (p : Nat → Bool) : List Nat → Option Nat
  | [] => none
  | x :: xs => if p x then some 0 else (fIx p xs).map (· + 1)
theorem fIx_some {p : Nat → Bool} : ∀ {xs : List Nat} {n : Nat}, fIx p xs = some n → ∃ x, xs[n]? = some x ∧ p x = true
  | [], n, h => by cases h
  | x :: xs, n, h => by
    unfold fIx at h
    split at h
    · rename_i hp
      cases h
      exact ⟨x, rfl, hp⟩
    · obtain ⟨k, h1, rfl⟩ := Option.map_eq_some_iff.mp h
      obtain ⟨y, h2, h3⟩ := fIx_some h1
      exact ⟨y, by simpa using h2, h3⟩
theorem fIx_none {p : Nat → Bool} : ∀ {xs : List Nat}, fIx p xs = none → ∀ x ∈ xs, p x = false
  | [], _, x, hx => by cases hx
  | y :: xs, h, x, hx => by
    unfold fIx at h
    split at h
    · cases h
    · rename_i hp
      rcases List.mem_cons.mp hx with rfl | hx
      · simpa using hp
      · exact fIx_none (Option.map_eq_none_iff.mp h) x hx
theorem fIx_congr {p q : Nat → Bool} : ∀ {xs : List Nat}, (∀ x ∈ xs, p x = q x) → fIx p xs = fIx q xs
  | [], _ => rfl
  | x :: xs, h => by
    unfold fIx
    rw [h x (List.mem_cons_self ..), fIx_congr fun y hy => h y (List.mem_cons_of_mem _ hy)]
def ledN (s : List Nat × List Nat) (i : Nat) : Option Nat → List Nat × List Nat
  | some n => (s.1 ++ [n], s.2)
  | none => (s.1 ++ [s.2.length], s.2 ++ [i])
/-- the numbers of the first i marks, the first ones -/
def ledS (R : Nat → Nat → Bool) : Nat → List Nat × List Nat
  | 0 => ([], [])
  | i + 1 => ledN (ledS R i) i (fIx (R i) (ledS R i).2)
structure Eqv (m : Nat) (R : Nat → Nat → Bool) : Prop where
  refl : ∀ i, i < m → R i i = true
  symm : ∀ i j, i < m → j < m → R i j = true → R j i = true
  trans : ∀ i j k, i < m → j < m → k < m → R i j = true → R j k = true → R i k = true
structure Led (R : Nat → Nat → Bool) (i : Nat) (s : List Nat × List Nat) : Prop where
  len : s.1.length = i
  few : s.2.length ≤ i
  lt : ∀ f ∈ s.2, f < i
  A : ∀ j : Nat, j < i → ∃ n f : Nat, s.1[j]? = some n ∧ s.2[n]? = some f ∧ R j f = true
  B : ∀ (n n' f f' : Nat), s.2[n]? = some f → s.2[n']? = some f' → R f f' = true → n = n'
  C : ∀ n f : Nat, s.2[n]? = some f → s.1[f]? = some n ∧ ∀ j : Nat, j < f → s.1[j]? ≠ some n
theorem snoc_get {α : Type} {l : List α} {a x : α} {i : Nat} (h : (l ++ [a])[i]? = some x) : l[i]? = some x ∨ (i = l.length ∧ a = x) := by
  by_cases hi : i < l.length
  · rw [List.getElem?_append_left hi] at h
    exact .inl h
  · have hl := (List.getElem?_eq_some_iff.mp h).1
    rw [List.length_append, List.length_singleton] at hl
    have e : i = l.length := by omega
    subst e
    simp at h
    exact .inr ⟨rfl, h⟩
theorem get_snoc {α : Type} {l : List α} {a x : α} {i : Nat} (h : l[i]? = some x) : (l ++ [a])[i]? = some x := by
  rw [List.getElem?_append_left (List.getElem?_eq_some_iff.mp h).1]
  exact h
theorem led_ok {m : Nat} {R : Nat → Nat → Bool} (E : Eqv m R) : ∀ i, i ≤ m → Led R i (ledS R i)
  | 0, _ => ⟨rfl, Nat.le_refl _, (fun f hf => by cases hf), (fun j hj => by omega), (fun n n' f f' h => by cases h), (fun n f h => by cases h)⟩
  | i + 1, hi => by
    have L := led_ok E i (by omega)
    obtain ⟨s, hs⟩ : ∃ s, s = ledS R i := ⟨_, rfl⟩
    rw [← hs] at L
    have ltg : ∀ n f : Nat, s.2[n]? = some f → f < i := fun n f h => L.lt f (List.mem_of_getElem? h)
    show Led R (i + 1) (ledN (ledS R i) i (fIx (R i) (ledS R i).2))
    rw [← hs]
    cases e : fIx (R i) s.2 with
    | some n =>
      obtain ⟨f, h1, h2⟩ := fIx_some e
      refine ⟨by show (s.1 ++ [n]).length = _; rw [List.length_append, L.len]; rfl, by show s.2.length ≤ _; have := L.few; omega, fun f hf => Nat.lt_succ_of_lt (L.lt f hf), fun j hj => ?_, L.B, fun k f' hk => ?_⟩
      · by_cases z : j < i
        · obtain ⟨n', f', a, b, c⟩ := L.A j z
          exact ⟨n', f', get_snoc a, b, c⟩
        · have : j = i := by omega
          subst this
          exact ⟨n, f, by show (s.1 ++ [n])[j]? = _; rw [← L.len]; simp, h1, h2⟩
      · obtain ⟨a, b⟩ := L.C k f' hk
        refine ⟨get_snoc a, fun j hj hc => ?_⟩
        rcases snoc_get hc with z | ⟨z, _⟩
        · exact b j hj z
        · rw [L.len] at z
          have := ltg k f' hk
          omega
    | none =>
      have no := fIx_none e
      refine ⟨by show (s.1 ++ [s.2.length]).length = _; rw [List.length_append, L.len]; rfl, by show (s.2 ++ [i]).length ≤ _; rw [List.length_append, List.length_singleton]; have := L.few; omega, fun f hf => ?_, fun j hj => ?_, fun n n' f f' h h' hr => ?_, fun n f h => ?_⟩
      · rcases List.mem_append.mp hf with z | z
        · exact Nat.lt_succ_of_lt (L.lt f z)
        · rw [List.mem_singleton.mp z]; omega
      · by_cases z : j < i
        · obtain ⟨n', f', a, b, c⟩ := L.A j z
          exact ⟨n', f', get_snoc a, get_snoc b, c⟩
        · have : j = i := by omega
          subst this
          exact ⟨s.2.length, j, by show (s.1 ++ [s.2.length])[j]? = _; rw [← L.len]; simp, by show (s.2 ++ [j])[s.2.length]? = _; simp, E.refl j (by omega)⟩
      · rcases snoc_get h with a | ⟨a, b⟩
        · rcases snoc_get h' with a' | ⟨a', b'⟩
          · exact L.B n n' f f' a a' hr
          · subst b'
            have := no f (List.mem_of_getElem? a)
            have hf := ltg n f a
            rw [E.symm f i (by omega) (by omega) hr] at this
            cases this
        · subst b
          rcases snoc_get h' with a' | ⟨a', b'⟩
          · have := no f' (List.mem_of_getElem? a')
            rw [hr] at this
            cases this
          · rw [a, a']
      · rcases snoc_get h with a | ⟨a, b⟩
        · obtain ⟨c, d⟩ := L.C n f a
          refine ⟨get_snoc c, fun j hj hc => ?_⟩
          rcases snoc_get hc with z | ⟨z, _⟩
          · exact d j hj z
          · rw [L.len] at z
            have := ltg n f a
            omega
        · subst b
          subst a
          refine ⟨by show (s.1 ++ [s.2.length])[i]? = _; rw [← L.len]; simp, fun j hj hc => ?_⟩
          rcases snoc_get hc with z | ⟨z, _⟩
          · obtain ⟨n', f', q1, q2, _⟩ := L.A j hj
            rw [z] at q1
            cases q1
            have := (List.getElem?_eq_some_iff.mp q2).1
            omega
          · rw [L.len] at z
            omega
theorem ledS_lt {R : Nat → Nat → Bool} : ∀ i, ∀ f ∈ (ledS R i).2, f < i
  | 0, f, h => by cases h
  | i + 1, f, h => by
    have h : f ∈ (ledN (ledS R i) i (fIx (R i) (ledS R i).2)).2 := h
    cases e : fIx (R i) (ledS R i).2 with
    | some n =>
      rw [e] at h
      exact Nat.lt_succ_of_lt (ledS_lt i f h)
    | none =>
      rw [e] at h
      rcases List.mem_append.mp h with h | h
      · exact Nat.lt_succ_of_lt (ledS_lt i f h)
      · rw [List.mem_singleton.mp h]; omega
theorem ledS_congr {m : Nat} {R R' : Nat → Nat → Bool} (h : ∀ i j, i < m → j < m → R i j = R' i j) : ∀ i, i ≤ m → ledS R i = ledS R' i
  | 0, _ => rfl
  | i + 1, hi => by
    show ledN (ledS R i) i (fIx (R i) (ledS R i).2) = ledN (ledS R' i) i (fIx (R' i) (ledS R' i).2)
    rw [ledS_congr h i (by omega), fIx_congr (q := R' i) fun x hx => h i x (by omega) (by have := ledS_lt (R := R') i x hx; omega)]
section
variable {m : Nat} {R : Nat → Nat → Bool} {s : List Nat × List Nat}
theorem Led.iff (L : Led R m s) (E : Eqv m R) {a b : Nat} (ha : a < m) (hb : b < m) : s.1[a]? = s.1[b]? ↔ R a b = true := by
  obtain ⟨n, f, a1, a2, a3⟩ := L.A a ha
  obtain ⟨n', f', b1, b2, b3⟩ := L.A b hb
  have hf := L.lt f (List.mem_of_getElem? a2)
  have hf' := L.lt f' (List.mem_of_getElem? b2)
  rw [a1, b1]
  constructor
  · intro e
    cases e
    rw [a2] at b2
    cases b2
    exact E.trans a f b ha hf hb a3 (E.symm b f hb hf b3)
  · intro e
    rw [L.B n n' f f' a2 b2 (E.trans f a f' hf ha hf' (E.symm a f ha hf a3) (E.trans a b f' ha hb hf' e b3))]
theorem Led.num_lt (L : Led R m s) {a n : Nat} (h : s.1[a]? = some n) : n < s.2.length := by
  have ha := (List.getElem?_eq_some_iff.mp h).1
  rw [L.len] at ha
  obtain ⟨n', f, a1, a2, _⟩ := L.A a ha
  rw [h] at a1
  cases a1
  exact (List.getElem?_eq_some_iff.mp a2).1
theorem Led.pos (L : Led R m s) (h : 0 < m) : 0 < s.2.length := by
  obtain ⟨n, f, a1, a2, _⟩ := L.A 0 h
  have := (List.getElem?_eq_some_iff.mp a2).1
  omega
end
/-- lists that hold all of another one -/
theorem count_in {α : Type} [DecidableEq α] : ∀ {l r : List α}, l.Nodup → (∀ x ∈ l, x ∈ r) → l.length ≤ r.length
  | [], r, _, _ => Nat.zero_le _
  | x :: l, r, hn, h => by
    obtain ⟨h1, h2⟩ := List.nodup_cons.mp hn
    have hx := h x (List.mem_cons_self ..)
    have := count_in (l := l) (r := r.erase x) h2 fun y hy => by
      have hne : y ≠ x := fun e => h1 (e ▸ hy)
      exact (List.mem_erase_of_ne hne).mpr (h y (List.mem_cons_of_mem _ hy))
    rw [List.length_erase_of_mem hx] at this
    have hp := List.length_pos_of_mem hx
    rw [List.length_cons]
    omega
theorem nodup_cover {α : Type} [DecidableEq α] : ∀ {l r : List α}, r.Nodup → (∀ x ∈ r, x ∈ l) → l.length ≤ r.length → l.Nodup
  | [], _, _, _, _ => .nil
  | x :: l, r, hr, h, hl => by
    rw [List.length_cons] at hl
    have hx : x ∉ l := fun hm => by
      have := count_in hr fun y hy => by
        rcases List.mem_cons.mp (h y hy) with rfl | z
        · exact hm
        · exact z
      omega
    have hxr : x ∈ r := by
      refine Decidable.byContradiction fun hn => ?_
      have := count_in hr fun y hy => by
        rcases List.mem_cons.mp (h y hy) with rfl | z
        · exact absurd hy hn
        · exact z
      omega
    refine List.nodup_cons.mpr ⟨hx, nodup_cover (hr.erase x) (fun y hy => ?_) ?_⟩
    · rcases List.mem_cons.mp (h y (List.mem_of_mem_erase hy)) with rfl | z
      · exact absurd rfl (List.Nodup.mem_erase_iff hr |>.mp hy).1
      · exact z
    · rw [List.length_erase_of_mem hxr]
      omega
/-- a finer numbering of no more numbers is the same -/
theorem same_of_few {m : Nat} {R R' : Nat → Nat → Bool} (E : Eqv m R) (E' : Eqv m R') {s s' : List Nat × List Nat} (L : Led R m s) (L' : Led R' m s') (hf : ∀ a b, a < m → b < m → R' a b = true → R a b = true) (hn : s'.2.length ≤ s.2.length) :
    ∀ a b, a < m → b < m → R a b = true → R' a b = true := by
  have nd : (s'.2.map fun f => s.1.getD f 0).Nodup := nodup_cover (r := List.range s.2.length) List.nodup_range (fun c hc => by
    have hc := List.mem_range.mp hc
    have e1 : s.2[c]? = some s.2[c] := List.getElem?_eq_getElem hc
    have hx := L.lt _ (List.mem_of_getElem? e1)
    obtain ⟨e2, _⟩ := L.C c _ e1
    obtain ⟨n, f, a1, a2, a3⟩ := L'.A _ hx
    have hfm := L'.lt f (List.mem_of_getElem? a2)
    refine List.mem_map.mpr ⟨f, List.mem_of_getElem? a2, ?_⟩
    have e3 := (L.iff E hx hfm).mpr (hf _ _ hx hfm a3)
    rw [List.getD_eq_getElem?_getD, ← e3, e2]
    rfl) (by rw [List.length_map, List.length_range]; exact hn)
  intro a b ha hb hr
  obtain ⟨n, f, a1, a2, a3⟩ := L'.A a ha
  obtain ⟨n', f', b1, b2, b3⟩ := L'.A b hb
  have hfa := L'.lt f (List.mem_of_getElem? a2)
  have hfb := L'.lt f' (List.mem_of_getElem? b2)
  have e : s.1[f]? = s.1[f']? := (L.iff E hfa hfb).mpr (E.trans f a f' hfa ha hfb (E.symm a f ha hfa (hf _ _ ha hfa a3)) (E.trans a b f' ha hb hfb hr (hf _ _ hb hfb b3)))
  have en : n = n' := by
    have g1 : (s'.2.map fun f => s.1.getD f 0)[n]? = some (s.1.getD f 0) := by rw [List.getElem?_map, a2]; rfl
    have g2 : (s'.2.map fun f => s.1.getD f 0)[n']? = some (s.1.getD f 0) := by
      rw [List.getElem?_map, b2]
      show some (s.1.getD f' 0) = _
      rw [List.getD_eq_getElem?_getD, List.getD_eq_getElem?_getD, e]
    have hl := (List.getElem?_eq_some_iff.mp g1).1
    exact (List.getElem?_inj hl nd).mp (g1.trans g2.symm)
  subst en
  rw [a2] at b2
  cases b2
  exact E'.trans a f b ha hfa hb a3 (E'.symm b f hb hfa b3)
end Pk
set_option Elab.async false
set_option linter.all false
set_option maxHeartbeats 1000000
set_option maxRecDepth 100000
/-! Pv2: k12: the names -/
namespace Pv
open PySem PySem.Spec L2 Dn Pn Qn TL Pt Pc Pu Pz
section
variable {P P' P1 P2 : Qn.PE} {ma mb mc : DE} {i j k n m r a b : Nat} {f f' : Fr} {E : Dn.Env} {S : Store} {v d : D} {c c' c0 c1 : Cell} {o : Option Nat} {xs ys vs : List D} {da : DA} {st : DS} {O : Out → Prop} {R : D → Qn.PE → Prop} {Rc : Cell → Qn.PE → Prop}
/-- a range whose end is drawn -/
theorem EI.range {Ri : List D → Qn.PE → (Qn.PE → Prop) → Prop} (h : EE P ma fun z P1 => ∃ r : Nat, z = .int (r : Nat) ∧ r ≤ 1000000 ∧ Ri (rngD 0 (r : Nat)) P1 WT) : Px.EI P (iRange1 (aCons ma aNil)) Ri := fun f E S t => by
  obtain ⟨z, P1, S1, ⟨r, rfl, hr, h1⟩, e1, t1⟩ := h f E S t
  refine ⟨_, P1, WT, S1, fun _ => true, f, h1, ?_, t1, Sub.refl f, fun _ _ _ _ _ => rfl⟩
  unfold iRange1
  rw [e_acons, e1, Dn.R.bind_ok, e_anil, Dn.R.bind_ok, Dn.R.bind_ok]
  dsimp only
  rw [if_pos (small_nat (by omega))]
theorem EN.lcX {it : DI} {te : DE} {g : DG} {ws vs : List Nat} (h : Px.EI P it fun xs P1 W => ∃ I : Nat → Qn.PE → List D → Prop, I 0 (wipeP P1 vs) [] ∧ (∀ i P acc, I i P acc → W P) ∧
    (∀ r x P acc, xs[r]? = some x → I r P acc → acc.length < sizeLine ∧ ∃ P2, Tg ws P g x P2 ∧ EE P2 te fun y P3 => I (r + 1) (wipeP P3 ws) (acc ++ [y])) ∧ ∀ Q acc, I xs.length Q acc → Rc (.lst acc) (backP P1 Q vs)) : EN P (dLc it g dYes te vs) Rc := fun f E S t => by
  obtain ⟨xs, P1, W, S1, chk, f', ⟨I, h0, hW, step, hr⟩, e1, t1, u, hc⟩ := h f E S t
  obtain ⟨Q, acc, S2, hq, e2, t2⟩ := lc_outE (te := te) (g := g) (ws := ws) I hW hc xs 0 (wipeP P1 vs) [] h0 (by simpa using step) (dWipe E vs) S1 (t1.wipe vs)
  rw [Nat.zero_add] at hq
  have t3 : Sd f' (wipeP Q vs) E S2 := t2.env (dWipe_len vs).symm fun i hi => (dWipe_get vs i hi).symm
  have t4 := Sd.back (P := P1) t1 t3 vs fun v h => h
  obtain ⟨q1, q2⟩ := (t4.weak u t.kn).newAt (g := [.lst acc]) (n := S2.length) (c := .lst acc) (Nat.le_refl _) (by simp)
  refine ⟨.lst acc, _, _, _, hr Q acc hq, ?_, q1, q2⟩
  unfold dLc
  rw [e1, Dn.R.bind_ok]
  dsimp only
  rw [e2, Dn.R.bind_ok]
  rfl
/-- names: texts of few signs, so many -/
def NmL (k : Nat) (xs : List D) : Prop := xs.length = k ∧ ∀ v ∈ xs, ∃ t : Str, v = .str t ∧ t.length ≤ 100
theorem NmL.nil : NmL 0 [] := ⟨rfl, fun v h => nomatch h⟩
theorem NmL.snoc {t : Str} (h : NmL k xs) (ht : t.length ≤ 100) : NmL (k + 1) (xs ++ [.str t]) := ⟨by rw [List.length_append, h.1]; rfl, fun v hv => by
  rcases List.mem_append.mp hv with hv | hv
  · exact h.2 v hv
  · rw [List.mem_singleton.mp hv]
    exact ⟨t, rfl, ht⟩⟩
theorem NmL.set {t : Str} (h : NmL k xs) (ht : t.length ≤ 100) : NmL k (xs.set i (.str t)) := ⟨by rw [List.length_set, h.1], fun v hv => by
  rcases List.mem_or_eq_of_mem_set hv with hv | rfl
  · exact h.2 v hv
  · exact ⟨t, rfl, ht⟩⟩
theorem NmL.get (h : NmL k xs) (hr : r < k) : ∃ t : Str, xs[r]? = some (.str t) ∧ t.length ≤ 100 := by
  have e := List.getElem?_eq_getElem (l := xs) (i := r) (by rw [h.1]; exact hr)
  obtain ⟨t, e2, ht⟩ := h.2 _ (List.getElem_mem (by rw [h.1]; exact hr))
  exact ⟨t, by rw [e, e2], ht⟩
def NmC (k : Nat) (xs : List D) : Prop := xs.length = k ∧ ∀ v ∈ xs, ∃ t : Str, v = .str t
theorem NmL.cl (h : NmL k xs) : NmC k xs := ⟨h.1, fun v hv => let ⟨t, e, _⟩ := h.2 v hv; ⟨t, e⟩⟩
end
end Pv
set_option Elab.async false
set_option linter.all false
set_option maxHeartbeats 1000000
set_option maxRecDepth 100000
/-! Pv3: k12: ends, a hall joined -/
namespace Pv
open PySem PySem.Spec L2 Dn Pn Qn TL Pt Pc Pu Pz
section
variable {P P' P1 P2 : Qn.PE} {ma mb mc : DE} {i j k n m r a b : Nat} {f f' : Fr} {E : Dn.Env} {S : Store} {v d : D} {c c' c0 c1 : Cell} {o : Option Nat} {xs ys vs : List D} {da : DA} {st : DS} {O : Out → Prop} {R : D → Qn.PE → Prop} {Rc : Cell → Qn.PE → Prop}
/-- a gate beside its name -/
abbrev NG := D × Gate
def gt (z : NG) : D := .tup [z.1, gateD z.2]
def GOk (z : NG) : Prop := (∃ t : Str, z.1 = .str t) ∧ ∃ s m, 0 < s ∧ s ≤ 6 ∧ 0 < m ∧ m ≤ 8 ∧ IsGate s m z.2
theorem GOk.lt (h : GOk z) : D.lt 0 (gt z) = true := by
  obtain ⟨⟨t, e⟩, _⟩ := h
  unfold gt
  rw [e]
  simp [D.lt]
/-- what holds no cell and no exception -/
def K0 (v : D) : Prop := D.lt 0 v = true ∧ Dx.cold v = true
end
end Pv
set_option Elab.async false
set_option linter.all false
set_option maxHeartbeats 1000000
set_option maxRecDepth 100000
/-! Pv4: k12: a hall joined -/
namespace Pv
open PySem PySem.Spec L2 Dn Pn Qn TL Pt Pc Pu Pz
section
variable {P P' P1 P2 : Qn.PE} {ma mb mc : DE} {i j k n m r a b : Nat} {f f' : Fr} {E : Dn.Env} {S : Store} {v d : D} {c c' c0 c1 : Cell} {o : Option Nat} {xs ys vs : List D} {da : DA} {st : DS} {O : Out → Prop} {R : D → Qn.PE → Prop} {Rc : Cell → Qn.PE → Prop} {gs : List NG}
def hallD (gs : List NG) (ws : List D) : D := .tup [.tup (gs.map gt), .tup ws]
abbrev Cl (ws : List D) : Prop := ∀ v ∈ ws, K0 v
theorem hall_lt {ws : List D} (h : ∀ z ∈ gs, GOk z) (hw : Cl ws) : D.lt 0 (hallD gs ws) = true := by
  unfold hallD
  rw [D.lt_tup, D.lts_cons, D.lts_cons, D.lts_nil, D.lt_tup, D.lt_tup, Bool.and_true, Bool.and_eq_true]
  refine ⟨D.lts_mem.mpr fun x hx => ?_, D.lts_mem.mpr fun x hx => (hw x hx).1⟩
  obtain ⟨z, hz, rfl⟩ := List.mem_map.mp hx
  exact (h z hz).lt
end
end Pv
set_option Elab.async false
set_option linter.all false
set_option maxHeartbeats 1000000
set_option maxRecDepth 100000
/-! Pv5: k12: halls, showings drawn -/
namespace Pv
open PySem PySem.Spec L2 Dn Pn Qn TL Pt Pc Pu Pz
section
variable {P P' P1 P2 : Qn.PE} {ma mb mc : DE} {i j k n m r a b : Nat} {f f' : Fr} {E : Dn.Env} {S : Store} {v d : D} {c c' c0 c1 : Cell} {o : Option Nat} {xs ys vs ws : List D} {da : DA} {st : DS} {O : Out → Prop} {R : D → Qn.PE → Prop} {Rc : Cell → Qn.PE → Prop} {gs : List NG} {z : NG}
def worth : List NG → Nat
  | [] => 1
  | z :: gs => z.2.length * worth gs
theorem worth_snoc : ∀ (gs : List NG) (z : NG), worth (gs ++ [z]) = worth gs * z.2.length
  | [], z => by simp [worth]
  | y :: gs, z => by
    rw [List.cons_append, worth, worth, worth_snoc gs z, Nat.mul_assoc]
/-- a hall as it is drawn -/
structure HOk (gs : List NG) (ws : List D) : Prop where
  ok : ∀ z ∈ gs, GOk z
  one : 1 ≤ gs.length
  few : gs.length ≤ 12
  wth : worth gs ≤ 100000
  cl : Cl ws
theorem HOk.lt (h : HOk gs ws) : D.lt 0 (hallD gs ws) = true := hall_lt h.ok h.cl
def hP (b mn sd mk : Nat) (c : Cell) (x5 x6 : PV) : Qn.PE := [.c (some b) c, .d (.int (mn : Nat)), .d (.int (sd : Nat)), .d (.int (mk : Nat)), .d (.int 0), x5, x6]
/-! a wide one -/
end
end Pv
set_option Elab.async false
set_option linter.all false
set_option maxHeartbeats 1000000
set_option maxRecDepth 100000
/-! Pv6: k12: numbers of showings -/
namespace Pv
open PySem PySem.Spec L2 Dn Pn Qn TL Pt Pc Pu Pz
/-! plain -/
section
variable {gs rs : List NG} {ms us : List Nat} {z : NG} {m n r i : Nat}
/-- from the last one on -/
def VR : List NG → List Nat → Nat
  | z :: rs, m :: us => VR rs us * z.2.length + m
  | _, _ => 0
def Fit : List NG → List Nat → Prop
  | [], [] => True
  | z :: gs, m :: ms => m < z.2.length ∧ Fit gs ms
  | _, _ => False
theorem Fit.len : ∀ {gs : List NG} {ms : List Nat}, Fit gs ms → ms.length = gs.length
  | [], [], _ => rfl
  | _ :: _, _ :: _, h => by rw [List.length_cons, List.length_cons, Fit.len h.2]
theorem Fit.snoc : ∀ {gs : List NG} {ms : List Nat}, Fit gs ms → m < z.2.length → Fit (gs ++ [z]) (ms ++ [m])
  | [], [], _, h => ⟨h, trivial⟩
  | _ :: _, _ :: _, h, h2 => ⟨h.1, Fit.snoc h.2 h2⟩
theorem Fit.rev : ∀ {gs : List NG} {ms : List Nat}, Fit gs ms → Fit gs.reverse ms.reverse
  | [], [], _ => trivial
  | _ :: _, _ :: _, h => by
    rw [List.reverse_cons, List.reverse_cons]
    exact (Fit.rev h.2).snoc h.1
theorem Fit.get : ∀ {gs : List NG} {ms : List Nat} {i : Nat}, Fit gs ms → gs[i]? = some z → ms[i]? = some m → m < z.2.length
  | _ :: _, _ :: _, 0, h, e1, e2 => by cases e1; cases e2; exact h.1
  | _ :: _, _ :: _, i + 1, h, e1, e2 => Fit.get h.2 e1 e2
theorem worth_rev : ∀ gs : List NG, worth gs.reverse = worth gs
  | [] => rfl
  | z :: gs => by
    rw [List.reverse_cons, worth_snoc, worth_rev gs, worth, Nat.mul_comm]
theorem VR_lt : ∀ {rs : List NG} {us : List Nat}, Fit rs us → VR rs us < worth rs
  | [], [], _ => by simp [VR, worth]
  | z :: rs, m :: us, h => by
    have ih := VR_lt h.2
    have q := Nat.mul_le_mul_right z.2.length (Nat.succ_le_of_lt ih)
    rw [VR, worth, Nat.mul_comm z.2.length]
    have := h.1
    rw [Nat.succ_mul] at q
    omega
/-- the number of a showing -/
def num (gs : List NG) (ms : List Nat) : Nat := VR gs.reverse ms.reverse
theorem num_lt (h : Fit gs ms) : num gs ms < worth gs := by
  have := VR_lt h.rev
  rw [worth_rev] at this
  exact this
end
section
variable {P P' P1 P2 : Qn.PE} {ma mb mc : DE} {i j k n m r a b : Nat} {f f' : Fr} {E : Dn.Env} {S : Store} {v d : D} {c c' c0 c1 : Cell} {o : Option Nat} {xs ys vs ws : List D} {da : DA} {st : DS} {O : Out → Prop} {R : D → Qn.PE → Prop} {Rc : Cell → Qn.PE → Prop} {gs : List NG} {z : NG} {ms : List Nat}
/-! loops -/
theorem zipD_len : ∀ {xs ys : List D}, xs.length = ys.length → (zipD xs ys).length = xs.length
  | [], [], _ => rfl
  | x :: xs, y :: ys, h => by rw [zipD, List.length_cons, List.length_cons, zipD_len (by simpa using h)]
theorem ExN.zipT (h : Ex P ma (.tup xs) P1) (h' : Ex P1 mb (.tup ys) P2) (he : xs.length = ys.length) (hl : xs.length ≤ sizeLine) : ExN P (dListZip (aCons ma (aCons mb aNil))) (.lst (zipD xs ys)) P2 := fun f E S s => by
  obtain ⟨S1, e1, s1⟩ := h f E S s
  obtain ⟨S2, e2, s2⟩ := h' f E S1 s1
  obtain ⟨t, hn⟩ := s2.alloc (.lst (zipD xs ys))
  refine ⟨_, _, ?_, hn, t⟩
  unfold dListZip
  rw [e_acons, e1, Dn.R.bind_ok, e_acons, e2, Dn.R.bind_ok, e_anil, Dn.R.bind_ok, Dn.R.bind_ok, Dn.R.bind_ok]
  show mkLst (zipD xs ys) S2 = _
  exact mkLst_ok (by rw [zipD_len he]; exact hl)
def iD (m : Nat) : D := .int (m : Nat)
end
end Pv
set_option Elab.async false
set_option linter.all false
set_option maxRecDepth 100000
set_option maxHeartbeats 4000000
set_option Elab.async false
set_option linter.all false
set_option maxHeartbeats 1000000
set_option maxRecDepth 100000
/-! Pa1: k41: marks and pairs looked at -/
namespace Pa
open PySem PySem.Spec L2 Dn Pn Qn TL Pw Pz
section
variable {k m n : Nat} {d x y : D} {g h : Gate}
def hP (g h : Gate) (d : D) (x3 x4 x5 x6 x7 x8 x9 x10 : PV) : Qn.PE := [.d (gateD g), .d (gateD h), .d d, x3, x4, x5, x6, x7, x8, x9, x10]
end
end Pa
set_option Elab.async false
set_option linter.all false
set_option maxHeartbeats 1000000
set_option maxRecDepth 100000
/-! Pa2: k41: pairs kept -/
namespace Pa
open PySem PySem.Spec L2 Dn Pn Qn TL Pw Pz
section
variable {k m n s i r : Nat} {d x y : D} {g h : Gate} {ps : List (Nat × Nat)} {p : Nat × Nat}
def rowG (g : Gate) (i : Nat) : List (Nat × Nat) := g.getD i []
theorem rowOf (hg : Rg s m g) (hi : i < m) : g[i]? = some (rowG g i) ∧ (rowG g i).length = s := by
  have hl : i < g.length := by rw [hg.len]; exact hi
  have e : g[i]? = some (rowG g i) := by
    unfold rowG
    rw [List.getD_eq_getElem?_getD, List.getElem?_eq_getElem hl]
    rfl
  exact ⟨e, hg.rows _ (List.mem_of_getElem? e)⟩
theorem ixG {P : Qn.PE} {ma mb : DE} {P1 P2 : Qn.PE} (ha : Ex P ma (gateD g) P1) (hb : Ex P1 mb (.int (i : Nat)) P2) (hg : Rg s m g) (hi : i < m) : Ex P (dBin vIx ma mb) (rowD (rowG g i)) P2 :=
  .bin ha hb (t_ixT (by rw [List.getElem?_map, (rowOf hg hi).1]; rfl))
theorem kept_get {l l2 : List (Nat × Nat)} {p q : Nat × Nat} (h1 : l[r]? = some p) (h2 : l2[r]? = some q) : (l.zip l2)[r]? = some (p, q) := by
  rw [List.getElem?_zip_eq_some]
  exact ⟨h1, h2⟩
end
end Pa
set_option Elab.async false
set_option linter.all false
set_option maxHeartbeats 1000000
set_option maxRecDepth 100000
/-! Pa10: k41: pairs in range, counted -/
namespace Pa
section
variable {m n : Nat}
theorem count_in {α : Type} [DecidableEq α] : ∀ {l r : List α}, l.Nodup → (∀ x ∈ l, x ∈ r) → l.length ≤ r.length
  | [], r, _, _ => Nat.zero_le _
  | x :: l, r, hn, h => by
    obtain ⟨h1, h2⟩ := List.nodup_cons.mp hn
    have hx := h x (List.mem_cons_self ..)
    have := count_in (l := l) (r := r.erase x) h2 fun y hy => by
      have hne : y ≠ x := fun e => h1 (e ▸ hy)
      exact (List.mem_erase_of_ne hne).mpr (h y (List.mem_cons_of_mem _ hy))
    rw [List.length_erase_of_mem hx] at this
    have hp := List.length_pos_of_mem hx
    rw [List.length_cons]
    omega
def allP : Nat → Nat → List (Nat × Nat)
  | 0, _ => []
  | m + 1, n => allP m n ++ (List.range n).map fun j => (m, j)
theorem allP_len : ∀ m n, (allP m n).length = m * n
  | 0, n => by simp [allP]
  | m + 1, n => by
    rw [allP, List.length_append, allP_len m n, List.length_map, List.length_range, Nat.add_mul, Nat.one_mul]
theorem allP_mem : ∀ {m n : Nat} {p : Nat × Nat}, p.1 < m → p.2 < n → p ∈ allP m n
  | 0, _, _, h, _ => by omega
  | m + 1, n, p, h, h2 => by
    rw [allP]
    by_cases e : p.1 < m
    · exact List.mem_append.mpr (.inl (allP_mem e h2))
    · refine List.mem_append.mpr (.inr (List.mem_map.mpr ⟨p.2, List.mem_range.mpr h2, ?_⟩))
      have : m = p.1 := by omega
      rw [this]
theorem pairs_count {fs : List (Nat × Nat)} (hn : fs.Nodup) (h : ∀ p ∈ fs, p.1 < m ∧ p.2 < n) : fs.length ≤ m * n := by
  have e := count_in hn fun p hp => allP_mem (h p hp).1 (h p hp).2
  rwa [allP_len] at e
end
end Pa
set_option Elab.async false
set_option linter.all false
set_option maxHeartbeats 1000000
set_option maxRecDepth 100000
/-! Pa11: k41: the pairs reached, one step -/
namespace Pa
open PySem PySem.Spec L2 Dn Pn Qn TL Pw Pz
section
variable {m n s s' a b J : Nat} {g h : Gate} {ps fs ls : List (Nat × Nat)} {p : Nat × Nat} {x6 x7 x8 x9 x10 : PV}
structure LI (m n J : Nat) (fs ls : List (Nat × Nat)) : Prop where
  nd : fs.Nodup
  fr : ∀ p ∈ fs, p.1 < m ∧ p.2 < n
  lr : ∀ p ∈ ls, p.1 < m ∧ p.2 < n
  sz : 2 * (m * n - fs.length) + ls.length ≤ J
theorem LI.more (h : LI m n J fs ls) (hp : p ∉ fs) (h1 : p.1 < m) (h2 : p.2 < n) : LI m n J (fs ++ [p]) (ls ++ [p]) := by
  have nd : (fs ++ [p]).Nodup := by
    rw [List.nodup_append]
    exact ⟨h.nd, by simp, fun x hx y hy e => hp (by rw [← List.mem_singleton.mp hy, ← e]; exact hx)⟩
  have fr : ∀ q ∈ fs ++ [p], q.1 < m ∧ q.2 < n := fun q hq => by
    rcases List.mem_append.mp hq with hq | hq
    · exact h.fr q hq
    · rw [List.mem_singleton.mp hq]; exact ⟨h1, h2⟩
  refine ⟨nd, fr, fun q hq => ?_, ?_⟩
  · rcases List.mem_append.mp hq with hq | hq
    · exact h.lr q hq
    · rw [List.mem_singleton.mp hq]; exact ⟨h1, h2⟩
  · have c := pairs_count nd fr
    have := h.sz
    rw [List.length_append, List.length_singleton] at c ⊢
    rw [List.length_append, List.length_singleton]
    omega
end
end Pa
set_option Elab.async false
set_option linter.all false
set_option maxHeartbeats 1000000
set_option maxRecDepth 100000
/-! Pa12: k41: the pairs reached, whole -/
namespace Pa
open PySem PySem.Spec L2 Dn Pn Qn TL Pw Pz
section
variable {m n s s' a b J : Nat} {g h : Gate} {ps fs ls : List (Nat × Nat)} {p : Nat × Nat} {x6 x7 x8 x9 x10 : PV}
theorem da_prsL : ∀ x ∈ ls.map pairD, Da 1 x := da_prs (k := 0)
theorem LI.pop (h : LI m n J fs (ls ++ [p])) : LI m n (J - 1) fs ls ∧ 0 < J ∧ p.1 < m ∧ p.2 < n := by
  have := h.sz
  rw [List.length_append, List.length_singleton] at this
  obtain ⟨h1, h2⟩ := h.lr p (List.mem_append_right _ (List.mem_singleton.mpr rfl))
  exact ⟨⟨h.nd, h.fr, fun q hq => h.lr q (List.mem_append_left _ hq), by omega⟩, by omega, h1, h2⟩
theorem prsOf_pairs : ∀ fs : List (Nat × Nat), prsOf (fs.map pairD) = some (fs.map fun p => ((p.1 : Int), (p.2 : Int)))
  | [] => rfl
  | p :: fs => by
    rw [List.map_cons, prsOf, prsOf_pairs fs]
    rfl
end
end Pa
set_option Elab.async false
set_option linter.all false
set_option maxHeartbeats 1000000
set_option maxRecDepth 100000
/-! Pa3: k41: the law's own look at a pairing -/
namespace Pa
open PySem PySem.Spec L2 Dn Pn Qn TL Pw Pz
end Pa
set_option Elab.async false
set_option linter.all false
set_option maxHeartbeats 1000000
set_option maxRecDepth 100000
/-! Pa4: k41: the program's look at one pair -/
namespace Pa
open PySem PySem.Spec L2 Dn Pn Qn TL Pw Pz
section
variable {k m n s s' i r a : Nat} {d x y : D} {g h : Gate} {ps : List (Nat × Nat)} {p : Nat × Nat} {c : Cell} {S : Store}
/-- a dict whose keys are the pairs ps -/
def Knows (ps : List (Nat × Nat)) (c : Cell) : Prop := ∀ (q : Nat × Nat) (S : Store) (n : Nat), S[n]? = some c → vIn true (pairD q) (.ref n) S = .ok (.bl (!decide (q ∈ ps))) S
end
end Pa
set_option Elab.async false
set_option linter.all false
set_option maxHeartbeats 1000000
set_option maxRecDepth 100000
/-! Pa5: k41: a dict of pairs -/
namespace Pa
open PySem PySem.Spec L2 Dn Pn Qn TL Pw Pz
def putP (y : D) (a : List (List Key × D)) (p : Nat × Nat) : List (List Key × D) := putD a (pk p) y
section
variable {y : D} {ps : List (Nat × Nat)}
theorem any_put (q : Nat × Nat) : ∀ (ps : List (Nat × Nat)) (acc : List (List Key × D)), ((ps.foldl (putP y) acc).any fun kv => decide (kv.1 = pk q)) = ((acc.any fun kv => decide (kv.1 = pk q)) || decide (q ∈ ps))
  | [], acc => by simp
  | p :: ps, acc => by
    rw [List.foldl_cons, any_put q ps]
    have e : ((putP y acc p).any fun kv => decide (kv.1 = pk q)) = ((acc.any fun kv => decide (kv.1 = pk q)) || decide (q = p)) := by
      unfold putP putD
      split
      · rename_i h
        rw [List.any_map]
        have e2 : ((fun kv : List Key × D => decide (kv.1 = pk q)) ∘ fun kv => if kv.1 = pk p then (kv.1, y) else kv) = fun kv => decide (kv.1 = pk q) := by
          funext kv
          show decide ((if kv.1 = pk p then (kv.1, y) else kv).1 = pk q) = _
          split <;> rfl
        rw [e2]
        by_cases hq : q = p
        · subst hq
          rw [h]
          rfl
        · simp [hq]
      · rw [List.any_append]
        congr 1
        simp only [List.any_cons, List.any_nil, Bool.or_false]
        by_cases hq : q = p
        · subst hq; simp
        · have : ¬ (pk p = pk q) := fun z => hq (pk_inj z).symm
          simp [hq, this]
    rw [e, Bool.or_assoc]
    congr 1
    by_cases h1 : q = p <;> by_cases h2 : q ∈ ps <;> simp [h1, h2]
theorem find_anyP {α : Type} (q : α → Bool) : ∀ l : List α, (l.find? q).isSome = l.any q
  | [] => rfl
  | a :: l => by
    rw [List.find?_cons, List.any_cons]
    cases h : q a
    · rw [Bool.false_or]; exact find_anyP q l
    · rfl
theorem knows_dict : Knows ps (.dT (ps.foldl (putP y) [])) := fun q S n e => by
  have el : look (.dT (ps.foldl (putP y) [])) (pairD q) = some (valD (ps.foldl (putP y) []) (pk q)) := rfl
  unfold vIn
  dsimp only
  rw [e]
  dsimp only
  rw [el]
  dsimp only
  rw [if_pos rfl]
  unfold valD
  rw [Option.isSome_map, find_anyP, any_put]
  rfl
end
end Pa
set_option Elab.async false
set_option linter.all false
set_option maxHeartbeats 1000000
set_option maxRecDepth 100000
/-! Pa6: k41: pairing_holds -/
namespace Pa
open PySem PySem.Spec L2 Dn Pn Qn TL Pw Pz
end Pa
set_option Elab.async false
set_option linter.all false
set_option maxHeartbeats 1000000
set_option maxRecDepth 100000
/-! Pa7: k41: pairing_holds, whole -/
namespace Pa
open PySem PySem.Spec L2 Dn Pn Qn TL Pw Pz
section
variable {k m n s s' : Nat} {d : D} {g h : Gate}
def qP (g h : Gate) (d : D) (x3 x4 x5 x6 : PV) : Qn.PE := [.d (gateD g), .d (gateD h), .d d, x3, x4, x5, x6]
end
end Pa
set_option Elab.async false
set_option linter.all false
set_option maxHeartbeats 1000000
set_option maxRecDepth 100000
/-! Pa8: k41: an odd thing -/
namespace Pa
open PySem PySem.Spec L2 Dn Pn Qn TL Pw Pz
end Pa
set_option Elab.async false
set_option linter.all false
set_option maxHeartbeats 1000000
set_option maxRecDepth 100000
/-! Pa9: k41: a thing spoilt -/
namespace Pa
open PySem PySem.Spec L2 Dn Pn Qn TL Pw Pz
section
variable {k b e : Nat} {d : D} {c : Cell} {S : Store} {x3 x4 x5 x6 : PV}
def sQ (b : Nat) (c : Cell) (d : D) (e : Nat) (x3 x4 x5 x6 : PV) : Qn.PE := [.c (some b) c, .d d, .d (.int (e : Nat)), x3, x4, x5, x6]
def SO4 (b k : Nat) (d : D) (o : Out) : Prop := ∃ v P' c', o = .rt v P' ∧ P'[0]? = some (.c (some b) c') ∧ D.lt 0 v = true ∧ c'.lt 0 = true ∧ (IsBox c' ∧ Da (k + 1) v ∧ wt v ≤ 3 * wt d + 40)
theorem SO4.of (hb : IsBox c) {v : D} (h : Da (k + 1) v) (hw : wt v ≤ 3 * wt d + 40) : SO4 b k d (.rt v (sQ b c d e x3 x4 x5 x6)) := ⟨v, _, c, rfl, rfl, Da.lt h, hb.lt 0, hb, h, hw⟩
end
end Pa
set_option Elab.async false
set_option linter.all false
set_option maxHeartbeats 1000000
set_option maxRecDepth 100000
/-! Pw10: alike of data, as k40 to k43 have it -/
namespace Pw
open PySem PySem.Spec L2 Dn Pn Qn TL
section
variable {k n : Nat} {x y : D} {l xs : List D} {p0 p1 p3 p4 : PV}
noncomputable def FAlike4 : DF := trimF (dDef 2 5 K42.den__law_alike)
abbrev eqTy (T : String) : DB := dTest (dBin vNe (dCall bIsi (aCons (dVar 3) (aCons (dC (.ty T)) aNil))) (dCall bIsi (aCons (dVar 4) (aCons (dC (.ty T)) aNil))))
def aB4 : DS := (dSeq (dIf (dTOr (dTest (dBin vNe (dCall bIsi (aCons (dVar 3) (aCons (dC (.ty "tuple")) aNil))) (dCall bIsi (aCons (dVar 4) (aCons (dC (.ty "tuple")) aNil))))) (dTest (dBin vNe (dCall bIsi (aCons (dVar 3) (aCons (dC (.ty "list")) aNil))) (dCall bIsi (aCons (dVar 4) (aCons (dC (.ty "list")) aNil)))))) (dRet (dC (.bl false))) dNext) (dSeq (dIf (dTOr (dTest (dBin vNe (dCall bIsi (aCons (dVar 3) (aCons (dC (.ty "bool")) aNil))) (dCall bIsi (aCons (dVar 4) (aCons (dC (.ty "bool")) aNil))))) (dTest (dBin vNe (dCall bIsi (aCons (dVar 3) (aCons (dC (.ty "str")) aNil))) (dCall bIsi (aCons (dVar 4) (aCons (dC (.ty "str")) aNil)))))) (dRet (dC (.bl false))) dNext) (dIf (dTest (dCall bIsi (aCons (dVar 4) (aCons (dTup (aCons (dC (.ty "tuple")) (aCons (dC (.ty "list")) aNil))) aNil)))) (dSeq (dIf (dTest (dBin vNe (dCall bLen (aCons (dVar 3) aNil)) (dCall bLen (aCons (dVar 4) aNil)))) (dRet (dC (.bl false))) dNext) (dDrop (dMeth "list" mExtend (dVar 2) (aCons (dListZip (aCons (dVar 3) (aCons (dVar 4) aNil))) aNil)))) (dIf (dTOr (dTest (dBin vNe (dVar 3) (dVar 4))) (dTest (dBin vNe (dCall bIsi (aCons (dVar 3) (aCons (dC (.ty "int")) aNil))) (dCall bIsi (aCons (dVar 4) (aCons (dC (.ty "int")) aNil)))))) (dRet (dC (.bl false))) dNext))))
theorem isTy (h : Da k y) (T : String) (hT : T = "tuple" ∨ T = "list" ∨ T = "bool" ∨ T = "str" ∨ T = "int") : ∃ b, ∀ S, bIsi [y, .ty T] S = .ok (.bl b) S := by
  cases h <;> rcases hT with rfl | rfl | rfl | rfl | rfl <;> exact ⟨_, fun _ => rfl⟩
theorem sameTy (h : Da k y) (T : String) (hT : T = "tuple" ∨ T = "list" ∨ T = "bool" ∨ T = "str" ∨ T = "int") : ExB (Px.aP p0 p1 l (.d y) (.d y)) (eqTy T) false (Px.aP p0 p1 l (.d y) (.d y)) := by
  obtain ⟨b, hb⟩ := isTy h T hT
  exact .test (.bin (.call (.two (.var (i := 3) rfl) (.con _)) hb) (.call (.two (.var (i := 4) rfl) (.con _)) hb) Px.t_neB)
theorem aB4_leaf (hy : Da k y) (hk : k ≤ 64) (i1 : ∀ S, bIsi [y, .tup [.ty "tuple", .ty "list"]] S = .ok (.bl false) S) : QS (Px.aP p0 p1 l (.d y) (.d y)) aB4 (.nx (Px.aP p0 p1 l (.d y) (.d y))) :=
  QS.seq (.ifF (.orF (sameTy hy "tuple" (by simp)) (sameTy hy "list" (by simp))) .next) (QS.seq (.ifF (.orF (sameTy hy "bool" (by simp)) (sameTy hy "str" (by simp))) .next)
    (QS.ifF (.test (.call (.two (.var (i := 4) rfl) Px.tt2) i1)) (QS.ifF (.orF (.test (.bin (.var (i := 3) rfl) (.var (i := 4) rfl) (t_neS hy hk))) (sameTy hy "int" (by simp))) .next)))
theorem aB4_tup (hy : Da k (.tup xs)) (h1 : l.length + xs.length ≤ 1000000) : QS (Px.aP p0 p1 l (.d (.tup xs)) (.d (.tup xs))) aB4 (.nx (Px.aP p0 p1 (l ++ xs.map dup) (.d (.tup xs)) (.d (.tup xs)))) := by
  refine QS.seq (.ifF (.orF (sameTy hy "tuple" (by simp)) (sameTy hy "list" (by simp))) .next) (QS.seq (.ifF (.orF (sameTy hy "bool" (by simp)) (sameTy hy "str" (by simp))) .next)
    (QS.ifT (.test (.call (.two (.var (i := 4) rfl) Px.tt2) fun _ => rfl))
    (QS.seq (QS.ifF (.test (.bin (.len (xs := xs) (.var (i := 3) rfl)) (.len (xs := xs) (.var (i := 4) rfl)) (t_neS (Da.int (k := 0) _) (by decide)))) .next) (.drop (v := .non) ?_))))
  have z : ExN (Px.aP p0 p1 l (.d (.tup xs)) (.d (.tup xs))) (dListZip (aCons (dVar 3) (aCons (dVar 4) aNil))) (.lst (zipD xs xs)) (Px.aP p0 p1 l (.d (.tup xs)) (.d (.tup xs))) := Px.ExN.zipT (.var rfl) (.var rfl) (by rw [zip_dup, List.length_map]; exact sl_ge _ (by omega))
  rw [zip_dup] at z
  exact Ex.extend (j := 2) rfl z.hd trivial rfl (by rw [List.length_map]; exact sl_ge _ (by omega))
theorem alike4_ok (h : Da k x) (hk : k < 50) (hw : wt x ≤ 1000000) : OpF [] FAlike4 [x, x] (.bl true) := by
  obtain ⟨o, ⟨q3, q4, rfl⟩, hq⟩ := QS.whileP (nb := dTest (dBin vNe (dVar 2) (dLst aNil))) (s := dSeq (dAsg (dMeth "list" mPop (dVar 2) aNil) (gTp 2 (gsCons (gNm 3) (gsCons (gNm 4) gsNil)))) aB4)
    (fun j P => ∃ ps q3 q4, P = Px.aP (.d x) (.d x) (ps.map dup) q3 q4 ∧ (∀ z ∈ ps, Da k z) ∧ wts ps ≤ 1000000 ∧ j = wts ps)
    (fun o => ∃ q3 q4, o = .nx (Px.aP (.d x) (.d x) [] q3 q4)) (j := wts [x]) (P := Px.aP (.d x) (.d x) [dup x] .any .any) ⟨[x], _, _, rfl, (fun z hz => by rw [List.mem_singleton.mp hz]; exact h), by simp [wts]; omega, rfl⟩ (by unfold FU; simp [wts]; omega) (by
    rintro j P ⟨ps, q3, q4, rfl, hps, hw1, rfl⟩
    have hd : ∀ z ∈ ps.map dup, Da (k + 1) z := fun z hz => by
      obtain ⟨y, hy, rfl⟩ := List.mem_map.mp hz
      exact .tup fun w hw => by
        have : w = y := by simpa using hw
        rw [this]; exact hps y hy
    refine ⟨!(ps.map dup).isEmpty, Px.aP (.d x) (.d x) (ps.map dup) q3 q4, .test (.binHH (.var (i := 2) rfl) ExN.nil.hd ⟨_, rfl⟩ trivial fun S n n' e e' => ne_nilD e e' hd (by omega)), fun hb => ?_, fun hb => ?_⟩
    · cases ps with
      | nil => exact ⟨q3, q4, rfl⟩
      | cons => cases hb
    · rcases List.eq_nil_or_concat ps with rfl | ⟨l, y, rfl⟩
      · cases hb
      · rw [List.concat_eq_append] at *
        have hpop : QS (Px.aP (.d x) (.d x) ((l ++ [y]).map dup) q3 q4) (dAsg (dMeth "list" mPop (dVar 2) aNil) (gTp 2 (gsCons (gNm 3) (gsCons (gNm 4) gsNil)))) (.nx (Px.aP (.d x) (.d x) (l.map dup) (.d y) (.d y))) := by
          have e := Ex.pop (P := Px.aP (.d x) (.d x) ((l ++ [y]).map dup) q3 q4) (j := 2) (xs := (l ++ [y]).map dup) (v := dup y) rfl (by simp)
          rw [show ((l ++ [y]).map dup).dropLast = l.map dup by simp] at e
          exact .asgT e (Tg.tp2 3 4 y y)
        have hy := hps y (by simp)
        have hl2 : ∀ z ∈ l, Da k z := fun z hz => hps z (by simp [hz])
        have hwy : wts (l ++ [y]) = wts l + wt y := by rw [wts_app]; simp [wts]
        rw [hwy] at hw1 ⊢
        have wl := wts_len l
        have wp := wt_pos y
        have leaf : (∀ S, bIsi [y, .tup [.ty "tuple", .ty "list"]] S = .ok (.bl false) S) → ∃ o, QS (Px.aP (.d x) (.d x) ((l ++ [y]).map dup) q3 q4) (dSeq (dAsg (dMeth "list" mPop (dVar 2) aNil) (gTp 2 (gsCons (gNm 3) (gsCons (gNm 4) gsNil)))) aB4) o ∧ LoopO (fun P2 => ∃ j', j' < wts l + wt y ∧ ∃ ps q3 q4, P2 = Px.aP (.d x) (.d x) (ps.map dup) q3 q4 ∧ (∀ z ∈ ps, Da k z) ∧ wts ps ≤ 1000000 ∧ j' = wts ps) (fun o => ∃ q3 q4, o = .nx (Px.aP (.d x) (.d x) [] q3 q4)) o := fun i1 =>
          ⟨.nx (Px.aP (.d x) (.d x) (l.map dup) (.d y) (.d y)), QS.seq hpop (aB4_leaf hy (by omega) i1), wts l, by omega, l, _, _, rfl, hl2, by omega, rfl⟩
        cases hy with
        | int i => exact leaf fun _ => rfl
        | str h => exact leaf fun _ => rfl
        | bl b => exact leaf fun _ => rfl
        | non => exact leaf fun _ => rfl
        | @tup k xs h' =>
          have hwx : wt (.tup xs) = 1 + wts xs := by simp [wt]
          have wx := wts_len xs
          refine ⟨.nx (Px.aP (.d x) (.d x) (l.map dup ++ xs.map dup) (.d (.tup xs)) (.d (.tup xs))), QS.seq hpop (aB4_tup (Da.tup h') (by rw [List.length_map]; omega)), wts (l ++ xs), by rw [wts_app]; omega, l ++ xs, _, _, by rw [List.map_append], fun z hz => ?_, by rw [wts_app]; omega, rfl⟩
          rcases List.mem_append.mp hz with hz | hz
          · exact hl2 z hz
          · exact (h' z hz).up)
  exact fn_data rfl (QS.seq (P1 := Px.aP (.d x) (.d x) [dup x] .any .any) (.asgN (ExN.lst (.one (.tup2 (.var (i := 0) rfl) (.var (i := 1) rfl))) (show 1 ≤ sizeLine by decide))) (QS.seq hq (.ret (.con _)))) rfl
end
end Pw
set_option Elab.async false
set_option linter.all false
set_option maxHeartbeats 1000000
set_option maxRecDepth 100000
/-! Pk2: marks parted more and more -/
namespace Pk
abbrev Rows := Nat → List (Nat × Nat)
structure Rw (s m : Nat) (row : Rows) : Prop where
  len : ∀ a, a < m → (row a).length = s
  lt : ∀ a, a < m → ∀ p ∈ row a, p.2 < m
/-- alike from the street -/
def Bis (ra rb : Rows) (a b : Nat) : Prop := ∃ B : Nat → Nat → Prop, B a b ∧ ∀ x y, B x y → (ra x).map (·.1) = (rb y).map (·.1) ∧ ∀ (i : Nat) (p q : Nat × Nat), (ra x)[i]? = some p → (rb y)[i]? = some q → B p.2 q.2
theorem Bis.step {ra rb : Rows} {a b : Nat} (h : Bis ra rb a b) : (ra a).map (·.1) = (rb b).map (·.1) ∧ ∀ (i : Nat) (p q : Nat × Nat), (ra a)[i]? = some p → (rb b)[i]? = some q → Bis ra rb p.2 q.2 := by
  obtain ⟨B, h1, h2⟩ := h
  exact ⟨(h2 a b h1).1, fun i p q e e' => ⟨B, (h2 a b h1).2 i p q e e', h2⟩⟩
def numAt (row : Rows) (m : Nat) (R : Nat → Nat → Bool) (a : Nat) : Nat := (ledS R m).1.getD a 0
def R0 (row : Rows) : Nat → Nat → Bool := fun a b => decide ((row a).map (·.1) = (row b).map (·.1))
def nextK (row : Rows) (m : Nat) (R : Nat → Nat → Bool) (a : Nat) : Nat × List Nat := (numAt row m R a, (row a).map fun p => numAt row m R p.2)
def Rn (row : Rows) (m : Nat) (R : Nat → Nat → Bool) : Nat → Nat → Bool := fun a b => decide (nextK row m R a = nextK row m R b)
def Rk (row : Rows) (m : Nat) : Nat → Nat → Nat → Bool
  | 0 => R0 row
  | k + 1 => Rn row m (Rk row m k)
theorem eqv_key {α : Type} [DecidableEq α] {m : Nat} (F : Nat → α) : Eqv m fun a b => decide (F a = F b) :=
  ⟨fun i _ => decide_eq_true rfl, fun i j _ _ h => decide_eq_true (of_decide_eq_true h).symm, fun i j k _ _ _ h h' => decide_eq_true ((of_decide_eq_true h).trans (of_decide_eq_true h'))⟩
section
variable {s m k : Nat} {row : Rows}
theorem eqv_k : ∀ k, Eqv m (Rk row m k)
  | 0 => eqv_key fun a => (row a).map (·.1)
  | k + 1 => eqv_key (nextK row m (Rk row m k))
def cls (row : Rows) (m k : Nat) : Nat := (ledS (Rk row m k) m).2.length
theorem led_k (k : Nat) : Led (Rk row m k) m (ledS (Rk row m k) m) := led_ok (eqv_k k) m (Nat.le_refl _)
theorem num_iff {k a b : Nat} (ha : a < m) (hb : b < m) : numAt row m (Rk row m k) a = numAt row m (Rk row m k) b ↔ Rk row m k a b = true := by
  have L := led_k (row := row) (m := m) k
  rw [← L.iff (eqv_k k) ha hb]
  have g : ∀ c, c < m → (ledS (Rk row m k) m).1[c]? = some (numAt row m (Rk row m k) c) := fun c hc => by
    unfold numAt
    rw [List.getD_eq_getElem?_getD, List.getElem?_eq_getElem (by rw [L.len]; exact hc)]
    rfl
  rw [g a ha, g b hb]
  constructor
  · intro e; rw [e]
  · intro e; exact Option.some.inj e
theorem finer {k a b : Nat} (ha : a < m) (hb : b < m) (h : Rk row m (k + 1) a b = true) : Rk row m k a b = true := by
  have e : nextK row m (Rk row m k) a = nextK row m (Rk row m k) b := of_decide_eq_true h
  exact (num_iff ha hb).mp (congrArg Prod.fst e)
theorem outs_k : ∀ {k a b : Nat}, a < m → b < m → Rk row m k a b = true → (row a).map (·.1) = (row b).map (·.1)
  | 0, _, _, _, _, h => of_decide_eq_true h
  | k + 1, _, _, ha, hb, h => outs_k ha hb (finer ha hb h)
theorem bis_k (W : Rw s m row) : ∀ {k a b : Nat}, a < m → b < m → Bis row row a b → Rk row m k a b = true
  | 0, a, b, _, _, h => decide_eq_true h.step.1
  | k + 1, a, b, ha, hb, h => by
    refine decide_eq_true (Prod.ext ((num_iff ha hb).mpr (bis_k W ha hb h)) ?_)
    show (row a).map _ = (row b).map _
    apply List.ext_getElem?
    intro i
    rw [List.getElem?_map, List.getElem?_map]
    cases e : (row a)[i]? with
    | none =>
      have h1 := List.getElem?_eq_none_iff.mp e
      rw [List.getElem?_eq_none (by rw [W.len b hb, ← W.len a ha]; exact h1)]
    | some p =>
      have h1 := (List.getElem?_eq_some_iff.mp e).1
      have e' : (row b)[i]? = some ((row b)[i]'(by rw [W.len b hb, ← W.len a ha]; exact h1)) := List.getElem?_eq_getElem _
      rw [e']
      show some (numAt row m (Rk row m k) p.2) = some (numAt row m (Rk row m k) _)
      have hp := W.lt a ha p (List.mem_of_getElem? e)
      have hq := W.lt b hb _ (List.mem_of_getElem? e')
      rw [(num_iff hp hq).mpr (bis_k W hp hq (h.step.2 i p _ e e'))]
/-- where the numbers stay as many they are the marks' kinds -/
theorem part_ok (W : Rw s m row) (hn : cls row m (k + 1) ≤ cls row m k) {a b : Nat} (ha : a < m) (hb : b < m) : Rk row m (k + 1) a b = true ↔ Bis row row a b := by
  refine ⟨fun h => ?_, bis_k W ha hb⟩
  have st : ∀ a b, a < m → b < m → Rk row m k a b = true → Rk row m (k + 1) a b = true := same_of_few (eqv_k k) (eqv_k (k + 1)) (led_k k) (led_k (k + 1)) (fun a b ha hb h => finer ha hb h) hn
  refine ⟨fun x y => x < m ∧ y < m ∧ Rk row m (k + 1) x y = true, ⟨ha, hb, h⟩, fun x y ⟨hx, hy, hr⟩ => ⟨outs_k hx hy hr, fun i p q e e' => ?_⟩⟩
  have hp := W.lt x hx p (List.mem_of_getElem? e)
  have hq := W.lt y hy q (List.mem_of_getElem? e')
  refine ⟨hp, hq, st _ _ hp hq ?_⟩
  have e2 : nextK row m (Rk row m k) x = nextK row m (Rk row m k) y := of_decide_eq_true hr
  have e3 : (row x).map (fun p => numAt row m (Rk row m k) p.2) = (row y).map (fun p => numAt row m (Rk row m k) p.2) := congrArg Prod.snd e2
  have e4 : ((row x).map fun p => numAt row m (Rk row m k) p.2)[i]? = ((row y).map fun p => numAt row m (Rk row m k) p.2)[i]? := by rw [e3]
  rw [List.getElem?_map, List.getElem?_map, e, e'] at e4
  exact (num_iff hp hq).mp (Option.some.inj e4)
theorem cls_le (k : Nat) : cls row m k ≤ m := (led_k k).few
end
end Pk
set_option Elab.async false
set_option linter.all false
set_option maxHeartbeats 1000000
set_option maxRecDepth 100000
/-! Pa13: k41: what the law's body wants -/
namespace Pa
open PySem PySem.Spec L2 Dn Pn Qn TL Pw Pz
section
variable {P P' P1 P2 : Qn.PE} {ma mb : DE} {i j m n s s' a b J k : Nat} {g h : Gate} {ps qs : List (Nat × Nat)} {L : List (List (Nat × Nat))} {c c0 : Cell} {o : Option Nat} {R : D → Qn.PE → Prop} {d : D} {xs : List D} {lo hi : Option Int} {ml mh : DO}
/-- a gate with its count of sides and marks, as it is drawn -/
structure Gt (s m : Nat) (g : Gate) : Prop where
  rg : Rg s m g
  s0 : 0 < s
  s9 : s ≤ 20
  m0 : 0 < m
  m9 : m ≤ 10
theorem any4E (hi : P[i]? = some (.c o c0)) (h : EE P ma fun v P1 => ∃ (s : Nat) (c : Cell), 0 < s ∧ s ≤ 20 ∧ v = .int (s : Nat) ∧ P1[i]? = some (.c o c) ∧ IsBox c ∧ ∀ g m c', Gt s m g → IsBox c' → R (gateD g) (P1.set i (.c o c'))) : EE P (dCall FAny4 (aCons (dVar i) (aCons ma aNil))) R := by
  refine EE.boxed hi (EA.cons h ?_)
  rintro v P1 ⟨s, c, s0, s9, rfl, hp, hb, hr⟩
  refine EA.nil ⟨c, hp, fun S n hn => ?_⟩
  obtain ⟨v, c', ⟨hc', m, g, m0, m9, rfl, hg⟩, e⟩ := any4_ok s0 s9 hn hb
  exact ⟨_, c', hr g m c' ⟨hg, s0, s9, m0, m9⟩ hc', e⟩
theorem renumE (hi : P[i]? = some (.c o c)) (hj : P[j]? = some (.d (gateD g))) (hg : Gt s m g) (hb : IsBox c) (hr : ∀ g c', Gt s m g → IsBox c' → R (gateD g) (P.set i (.c o c'))) : EE P (dCall FRenum (aCons (dVar i) (aCons (dVar j) aNil))) R := by
  refine EE.boxed hi (ExA.ea (.one (.var hj)) ⟨c, hi, fun S n hn => ?_⟩)
  obtain ⟨v, c', ⟨hc', g', rfl, hg'⟩, e⟩ := renum_ok hg.rg (by have := hg.m9; omega) hg.s9 hn hb
  exact ⟨_, c', hr g' c' ⟨hg', hg.s0, hg.s9, hg.m0, hg.m9⟩ hc', e⟩
theorem lenG (hj : P[j]? = some (.d (gateD g))) (hg : Gt s m g) : Ex P (dCall bLen (aCons (dVar j) aNil)) (.int (m : Nat)) P := by
  have e := Ex.len (P := P) (.var (i := j) (v := .tup (g.map rowD)) hj)
  rw [List.length_map, hg.rg.len] at e
  exact e
/-- a slice of a slot's list -/
theorem slOwn (hP : P[j]? = some (.c o (.lst xs))) (h1 : PartOk P ml lo) (h2 : PartOk P mh hi) : ExN P (dSl (dVar j) ml mh) (.lst (cutD xs lo hi)) P := fun f E S s => by
  obtain ⟨n, e1, e2, _⟩ := s.cell hP
  have hv : dVar j E S = .ok (.ref n) S := by unfold dVar; rw [e1]
  obtain ⟨S1, q1, s1⟩ := h1 f E S s
  obtain ⟨S2, q2, s2⟩ := h2 f E S1 s1
  obtain ⟨n', e1', e5, _⟩ := s2.cell hP
  rw [e1] at e1'
  cases e1'
  obtain ⟨s3, hn⟩ := s2.alloc (.lst (cutD xs lo hi))
  refine ⟨_, _, ?_, hn, s3⟩
  unfold dSl
  rw [hv, Dn.R.bind_ok, q1, Dn.R.bind_ok, q2, Dn.R.bind_ok]
  unfold vSl
  dsimp only
  rw [e5]
  rfl
end
end Pa
set_option Elab.async false
set_option linter.all false
set_option maxHeartbeats 1000000
set_option maxRecDepth 100000
/-! Pk3: k42: things numbered -/
namespace Pk
open PySem PySem.Spec L2 Dn Pn Qn TL Pw
section
variable {P P1 P2 P' : Qn.PE} {i j n : Nat} {o : Option Nat} {m : DE} {x y v : D} {k : NestedKey} {z : Int} {kvs : List (NestedKey × Int)} {c0 : Cell} {key : Nat → NestedKey} {xs : List D}
theorem ExN.newN [KF] : ExN P dNewN (.dN []) P := fun f E S s => by
  obtain ⟨q1, q2⟩ := s.newAt (g := [.dN []]) (n := S.length) (c := .dN []) (Nat.le_refl _) (by simp)
  exact ⟨S.length, S ++ [.dN []], rfl, q1, q2⟩
theorem t_notInN (h : nkey x = some k) : ∀ S n, S[n]? = some (.dN kvs) → vInN true x (.ref n) S = .ok (.bl (!(valN kvs k).isSome)) S := fun S n e => by
  unfold vInN
  have : dnAt (.ref n) S = some kvs := by unfold dnAt; dsimp only; rw [e]
  rw [this, h]
  rfl
theorem t_ixN (h : nkey x = some k) (hv : valN kvs k = some z) : ∀ S n, S[n]? = some (.dN kvs) → vIxN (.ref n) x S = .ok (.int z) S := fun S n e => by
  unfold vIxN
  have : dnAt (.ref n) S = some kvs := by unfold dnAt; dsimp only; rw [e]
  rw [this, h]
  dsimp only
  rw [hv]
theorem t_lenN : ∀ S n, S[n]? = some (.dN kvs) → bLenN [.ref n] S = .ok (.int ((kvs.length : Nat) : Int)) S := fun S n e => by
  unfold bLenN
  have : dnAt (.ref n) S = some kvs := by unfold dnAt; dsimp only; rw [e]
  dsimp only
  rw [this]
theorem Tg.sbN [KF] (hP : P[j]? = some (.c o c0)) (h : Ex P m y P1) (hP1 : P1[j]? = some (.c o (.dN kvs))) (hk : nkey y = some k) (hl : kvs.length < sizeLine) (hv : valN kvs k = none) : Tg [] P (gSbN (dVar j) m) (.int z) (P1.set j (.c o (.dN (kvs ++ [(k, z)])))) := fun f E S s => by
  obtain ⟨n, e1, e2, _⟩ := s.cell hP
  obtain ⟨S1, e3, s1⟩ := h f E S s
  obtain ⟨n', e1', e4, _⟩ := s1.cell hP1
  rw [e1] at e1'
  cases e1'
  have hv0 : dVar j E S = .ok (.ref n) S := by unfold dVar; rw [e1]
  refine ⟨E, S1.set n (.dN (kvs ++ [(k, z)])), ?_, s1.write hP1 e1 _, rfl, fun _ _ => rfl⟩
  unfold gSbN
  rw [hv0, Dn.R.bind_ok, e3, Dn.R.bind_ok]
  have : dnAt (.ref n) S1 = some kvs := by unfold dnAt; dsimp only; rw [e4]
  unfold vSetN
  dsimp only
  rw [this, hk]
  dsimp only
  rw [if_pos ⟨hl, hv⟩]
  rfl
def kvF : Nat → List NestedKey → List (NestedKey × Int)
  | _, [] => []
  | n, k :: ks => (k, (n : Nat)) :: kvF (n + 1) ks
theorem kvF_len : ∀ (n : Nat) (ks : List NestedKey), (kvF n ks).length = ks.length
  | _, [] => rfl
  | n, k :: ks => by rw [kvF, List.length_cons, List.length_cons, kvF_len (n + 1) ks]
theorem kvF_snoc (k : NestedKey) : ∀ (n : Nat) (ks : List NestedKey), kvF n (ks ++ [k]) = kvF n ks ++ [(k, ((n + ks.length : Nat) : Int))]
  | n, [] => rfl
  | n, q :: ks => by
    rw [List.cons_append, kvF, kvF, kvF_snoc k (n + 1) ks, List.length_cons, show n + 1 + ks.length = n + (ks.length + 1) by omega]
    rfl
theorem valF (key : Nat → NestedKey) (i : Nat) : ∀ (fs : List Nat) (n : Nat), valN (kvF n (fs.map key)) (key i) = (fIx (fun x => decide (key i = key x)) fs).map fun j => ((n + j : Nat) : Int)
  | [], n => rfl
  | f :: fs, n => by
    rw [List.map_cons, kvF, fIx]
    by_cases h : key i = key f
    · rw [if_pos (decide_eq_true h)]
      simp [valN, h]
    · rw [if_neg (by simpa using h)]
      have e : valN ((key f, ((n : Nat) : Int)) :: kvF (n + 1) (fs.map key)) (key i) = valN (kvF (n + 1) (fs.map key)) (key i) := by
        unfold valN
        rw [List.find?_cons]
        rw [show decide ((key f, ((n : Nat) : Int)).1 = key i) = false from decide_eq_false fun z => h z.symm]
      rw [e, valF key i fs (n + 1), Option.map_map]
      congr 1
      funext j
      show ((n + 1 + j : Nat) : Int) = ((n + (j + 1) : Nat) : Int)
      congr 1
      omega
theorem fIx_snoc {p : Nat → Bool} {x : Nat} (hp : p x = true) : ∀ {xs : List Nat}, fIx p xs = none → fIx p (xs ++ [x]) = some xs.length
  | [], _ => by
    show fIx p [x] = some 0
    unfold fIx
    rw [if_pos hp]
  | y :: xs, h => by
    unfold fIx at h
    split at h
    · cases h
    · rename_i hy
      rw [List.cons_append, fIx, if_neg hy, fIx_snoc hp (Option.map_eq_none_iff.mp h)]
      rfl
noncomputable def FNumbered : DF := dDef 1 4 K42.den_numbered
def nP (n : Nat) (xs : List D) (key : Nat → NestedKey) (s : List Nat × List Nat) (x3 : PV) : Qn.PE := [.c (some n) (.lst xs), .c none (.dN (kvF 0 (s.2.map key))), .c none (.lst (s.1.map iD)), x3]
theorem numbered_ok (hx : ∀ i x, xs[i]? = some x → nkey x = some (key i)) (hl : xs.length ≤ 1000) {S : Store} (e : S[n]? = some (.lst xs)) :
    ∃ r g, FNumbered [.ref n] S = .ok (.ref r) (S ++ g) ∧ S.length ≤ r ∧ (S ++ g)[r]? = some (.lst ((ledS (fun a b => decide (key a = key b)) xs.length).1.map iD)) := by
  obtain ⟨R, hR⟩ : ∃ R : Nat → Nat → Bool, R = fun a b => decide (key a = key b) := ⟨_, rfl⟩
  rw [← hR]
  have E : Eqv xs.length R := hR ▸ eqv_key key
  obtain ⟨o, ⟨x3, rfl⟩, hw⟩ := QS.forP (P := nP n xs key ([], []) .any) (P1 := nP n xs key ([], []) .any) (it := iVal (dVar 0)) (g := gNm 3) (s := dSeq (dIf (dTest (dBin (vInN true) (dVar 3) (dVar 1))) (dAsg (dCall bLenN (aCons (dVar 1) aNil)) (gSbN (dVar 1) (dVar 3))) dNext) (dDrop (dMeth "list" mAppend (dVar 2) (aCons (dBin vIxN (dVar 1) (dVar 3)) aNil)))) (xs := xs) (W := WL 0 n xs)
    (fun i P => ∃ x3, P = nP n xs key (ledS R i) x3) (fun o => ∃ x3, o = .nx (nP n xs key (ledS R xs.length) x3)) (It.own (j := 0) rfl) ⟨.any, rfl⟩ (fun i P ⟨x3, e⟩ => by subst e; rfl) (fun P ⟨x3, e⟩ => ⟨x3, by rw [e]⟩) (by
    rintro i x P hxi ⟨x3, rfl⟩
    have hk := hx i x hxi
    have hi := (List.getElem?_eq_some_iff.mp hxi).1
    obtain ⟨s, hs⟩ : ∃ s, s = ledS R i := ⟨_, rfl⟩
    have hstep : ledS R (i + 1) = ledN (ledS R i) i (fIx (R i) (ledS R i).2) := rfl
    rw [← hs] at hstep
    have L := led_ok E i (by omega)
    rw [← hs] at L
    have hfew := L.few
    have hlen := L.len
    have vF := valF key i s.2 0
    have hRi : (fun x => decide (key i = key x)) = R i := by rw [hR]
    rw [hRi] at vF
    refine ⟨[3], nP n xs key s (.d x), by rw [← hs]; exact Tg.nm 3 _, ?_⟩
    have t : ExB (nP n xs key s (.d x)) (dTest (dBin (vInN true) (dVar 3) (dVar 1))) (!(valN (kvF 0 (s.2.map key)) (key i)).isSome) (nP n xs key s (.d x)) := .test (.binD (.var (i := 3) rfl) (Hd.var (i := 1) rfl) ⟨_, rfl⟩ (t_notInN hk))
    have app : ∀ {s2 : List Nat} {q : Nat}, valN (kvF 0 (s2.map key)) (key i) = some ((q : Nat) : Int) → QS (nP n xs key (s.1, s2) (.d x)) (dDrop (dMeth "list" mAppend (dVar 2) (aCons (dBin vIxN (dVar 1) (dVar 3)) aNil))) (.nx (nP n xs key (s.1 ++ [q], s2) (.d x))) := fun {s2 q} hq => by
      have z := QS.append (P := nP n xs key (s.1, s2) (.d x)) (j := 2) (o := none) (xs := s.1.map iD) (ys := s.1.map iD) rfl (.binH (Hd.var (i := 1) rfl) (.var (i := 3) rfl) ⟨_, rfl⟩ (t_ixN hk hq)) rfl (by rw [List.length_map]; exact lt_sl (by omega))
      have e2 : s.1.map iD ++ [.int ((q : Nat) : Int)] = (s.1 ++ [q]).map iD := by rw [List.map_append]; rfl
      rw [e2] at z
      exact z
    cases ef : fIx (R i) s.2 with
    | some q =>
      rw [ef] at vF hstep
      have vF : valN (kvF 0 (s.2.map key)) (key i) = some ((q : Nat) : Int) := by rw [vF]; show some (((0 + q : Nat)) : Int) = _; rw [Nat.zero_add]
      rw [vF] at t
      exact ⟨_, QS.seq (.ifF t .next) (app vF), .d x, by rw [hstep]; rfl⟩
    | none =>
      rw [ef] at vF hstep
      rw [vF] at t
      have a1 : QS (nP n xs key s (.d x)) (dAsg (dCall bLenN (aCons (dVar 1) aNil)) (gSbN (dVar 1) (dVar 3))) (.nx (nP n xs key (s.1, s.2 ++ [i]) (.d x))) := by
        have z := QS.asgT (P := nP n xs key s (.d x)) (.callH (Hd.var (i := 1) rfl) ⟨_, rfl⟩ t_lenN) (Tg.sbN (P := nP n xs key s (.d x)) (j := 1) (o := none) (kvs := kvF 0 (s.2.map key)) (z := (((kvF 0 (s.2.map key)).length : Nat) : Int)) rfl (.var (i := 3) rfl) rfl hk (by rw [kvF_len, List.length_map]; exact lt_sl (by omega)) vF)
        have e2 : kvF 0 (s.2.map key) ++ [(key i, (((kvF 0 (s.2.map key)).length : Nat) : Int))] = kvF 0 ((s.2 ++ [i]).map key) := by
          rw [List.map_append, List.map_cons, List.map_nil, kvF_snoc, kvF_len, Nat.zero_add]
        rw [e2] at z
        exact z
      have v2 := valF key i (s.2 ++ [i]) 0
      rw [hRi, fIx_snoc (E.refl i hi) ef] at v2
      have v2 : valN (kvF 0 ((s.2 ++ [i]).map key)) (key i) = some ((s.2.length : Nat) : Int) := by rw [v2]; show some (((0 + s.2.length : Nat)) : Int) = _; rw [Nat.zero_add]
      exact ⟨_, QS.seq (.ifT t a1) (app v2), .d x, by rw [hstep]; rfl⟩)
  refine fn_new (Ps := [.c (some n) (.lst xs)]) (P' := (nP n xs key (ledS R xs.length) x3).set 2 .any) rfl (c := .lst ((ledS R xs.length).1.map iD)) ?_ (fun i r c h => ?_) (by simp [Qn.addrs]) ⟨⟨rfl, e⟩, trivial⟩
  · unfold K42.den_numbered
    refine QS.seq (P1 := [.c (some n) (.lst xs), .c none (.dN []), .any, .any]) (.asgN ExN.newN) (QS.seq (P1 := nP n xs key ([], []) .any) (.asgN ExN.nil) (QS.seq hw ?_))
    exact QS.retV (i := 2) rfl
  · match i, h with
    | 0, h => cases h; rfl
end
end Pk
set_option Elab.async false
set_option linter.all false
set_option maxHeartbeats 1000000
set_option maxRecDepth 100000
/-! Pk4: k42: marks parted, walked -/
namespace Pk
open PySem PySem.Spec L2 Dn Pn Qn TL Pw Pa
section
variable {P P1 P2 P' : Qn.PE} {i j n s m k : Nat} {o : Option Nat} {x y v : D} {g : Gate} {xs : List D} {key : Nat → NestedKey} {led : List Nat}
theorem rw_of (hg : Rg s m g) : Rw s m (rowG g) := ⟨fun a ha => (rowOf hg ha).2, fun a ha p hp => (hg.rng _ (List.mem_of_getElem? (rowOf hg ha).1) p hp).2⟩
/-! ### keys -/
theorem keysN_num : ∀ l : List Nat, keysN (l.map iD) = some (l.map fun n => NestedKey.num (n : Nat))
  | [] => rfl
  | n :: l => by
    rw [List.map_cons, keysN, keysN_num l]
    rfl
theorem depth_num : ∀ l : List Nat, NestedKey.depthAll (l.map fun n => NestedKey.num (n : Nat)) = 0
  | [] => rfl
  | n :: l => by
    rw [List.map_cons, NestedKey.depthAll, depth_num l]
    rfl
theorem num_inj {l l' : List Nat} : (l.map fun n => NestedKey.num (n : Nat)) = (l'.map fun n => NestedKey.num (n : Nat)) ↔ l = l' :=
  List.map_inj_right fun x y h => by
    injection h with h
    exact Int.ofNat.inj h
theorem nkey1 (l : List Nat) : nkey (.tup (l.map iD)) = some (.tup (l.map fun n => NestedKey.num (n : Nat))) := by
  unfold nkey
  dsimp only
  rw [keysN_num, Option.bind_some, if_pos (by rw [NestedKey.depth, depth_num]; decide)]
theorem nkey2 (n : Nat) (l : List Nat) : nkey (.tup [iD n, .tup (l.map iD)]) = some (.tup [.num (n : Nat), .tup (l.map fun n => NestedKey.num (n : Nat))]) := by
  unfold nkey
  have e : keysN [iD n, .tup (l.map iD)] = some [.num (n : Nat), .tup (l.map fun n => NestedKey.num (n : Nat))] := by
    rw [keysN, keysN, keyN, keysN_num]
    rfl
  dsimp only
  rw [e, Option.bind_some, if_pos]
  show NestedKey.depthAll [_, _] + 1 ≤ 8
  simp [NestedKey.depthAll, NestedKey.depth, depth_num]
def key0 (row : Rows) (a : Nat) : NestedKey := .tup (((row a).map (·.1)).map fun n => NestedKey.num (n : Nat))
def keyS (row : Rows) (num : Nat → Nat) (a : Nat) : NestedKey := .tup [.num (num a : Nat), .tup (((row a).map fun p => num p.2).map fun n => NestedKey.num (n : Nat))]
theorem key0_eq {row : Rows} : (fun a b => decide (key0 row a = key0 row b)) = Rk row m 0 := by
  funext a b
  show _ = decide ((row a).map (·.1) = (row b).map (·.1))
  congr 1
  unfold key0
  rw [NestedKey.tup.injEq, num_inj]
theorem keyS_eq {row : Rows} : (fun a b => decide (keyS row (numAt row m (Rk row m k)) a = keyS row (numAt row m (Rk row m k)) b)) = Rk row m (k + 1) := by
  funext a b
  show _ = decide (nextK row m (Rk row m k) a = nextK row m (Rk row m k) b)
  congr 1
  unfold keyS nextK
  simp only [NestedKey.tup.injEq, List.cons.injEq, and_true, NestedKey.num.injEq, num_inj, Prod.mk.injEq, Int.natCast_inj]
/-! ### the walk -/
theorem max_led {R : Nat → Nat → Bool} {q : List Nat × List Nat} (L : Led R m q) (m0 : 0 < m) : maxI (q.1.map fun n => ((n : Nat) : Int)) + 1 = (q.2.length : Nat) := by
  have hp := L.pos m0
  have e : q.2[q.2.length - 1]? = some q.2[q.2.length - 1] := List.getElem?_eq_getElem (by omega)
  have h1 : q.2.length - 1 ∈ q.1 := List.mem_of_getElem? (L.C _ _ e).1
  have h2 : ((q.2.length - 1 : Nat) : Int) ≤ maxI (q.1.map fun n => ((n : Nat) : Int)) := maxI_le (List.mem_map.mpr ⟨_, h1, rfl⟩)
  have h3 : maxI (q.1.map fun n => ((n : Nat) : Int)) ∈ q.1.map fun n => ((n : Nat) : Int) := maxI_mem (by
    intro z
    have := List.map_eq_nil_iff.mp z
    rw [this] at h1
    cases h1)
  obtain ⟨y, hy, e2⟩ := List.mem_map.mp h3
  obtain ⟨a, ha⟩ := List.getElem?_of_mem hy
  have := L.num_lt ha
  omega
theorem led_ints (l : List Nat) : l.map iD = (l.map fun n => ((n : Nat) : Int)).map D.int := by
  rw [List.map_map]
  rfl
theorem t_max (h : led ≠ []) : ∀ S n, S[n]? = some (.lst (led.map iD)) → bMaxL [.ref n] S = .ok (.int (maxI (led.map fun n => ((n : Nat) : Int)))) S := fun S n e => by
  unfold bMaxL
  dsimp only
  have el : lstAt (.ref n) S = some (led.map iD) := by unfold lstAt; dsimp only; rw [e]
  rw [el, Option.bind_some, led_ints, intsD_map]
  dsimp only
  rw [if_neg (by simpa using h)]
theorem callNum (h : ExN P (mm : DE) (.lst xs) P1) (hx : ∀ i x, xs[i]? = some x → nkey x = some (key i)) (hl : xs.length ≤ 1000) : ExN P (dCall FNumbered (aCons mm aNil)) (.lst ((ledS (fun a b => decide (key a = key b)) xs.length).1.map iD)) P1 :=
  .callM (as := [.h none (.lst xs)]) (.consN h .nil) ⟨trivial, trivial⟩ fun S ys ha => by
    cases ys with
    | nil => exact ha.elim
    | cons y ys =>
      obtain ⟨⟨n, rfl, e⟩, ha⟩ := ha
      cases ys with
      | cons => exact ha.elim
      | nil => 
        obtain ⟨r, g, e1, e2, e3⟩ := numbered_ok hx hl e
        exact ⟨r, g, e1, e2, e3⟩
def pP (g : Gate) (led : List Nat) (x2 x3 : PV) : Qn.PE := [.d (gateD g), .c none (.lst (led.map iD)), x2, x3, .any, .any, .any]
/-- the numbers of a row's marks -/
def leds (led : List Nat) (r : List (Nat × Nat)) : List Nat := r.map fun p => led.getD p.2 0
theorem ledAt (hl : led.length = m) (hp : k < m) : (led.map iD)[k]? = some (iD (led.getD k 0)) := by
  rw [List.getElem?_map, List.getD_eq_getElem?_getD, List.getElem?_eq_getElem (by rw [hl]; exact hp)]
  rfl
theorem enum_map {α : Type} {f : α → D} : ∀ (l : List α) (k : Nat), enumD k (l.map f) = (l.zipIdx k).map fun z => .tup [iD z.2, f z.1]
  | [], _ => rfl
  | a :: l, k => by
    rw [List.map_cons, enumD, List.zipIdx_cons, List.map_cons, enum_map l (k + 1)]
    rfl
theorem rows_ex (hg : Rg s m g) (s9 : s ≤ 20) (m9 : m ≤ 50) (hl : led.length = m) {x2 x3 : PV} : ExN (pP g led x2 x3) (dLc (iVal (dVar 0)) (gNm 4) dYes (dCall bTuple (aCons (dLc (iVal (dVar 4)) (gTp 2 (gsCons (gNm 5) (gsCons (gNm 6) gsNil))) dYes (dBin vIx (dVar 1) (dVar 6)) [5, 6]) aNil)) [4]) (.lst (g.map fun r => .tup ((leds led r).map iD))) (pP g led x2 x3) := by
  refine ExN.lc (P := pP g led x2 x3) (P1 := pP g led x2 x3) (it := iVal (dVar 0)) (g := gNm 4) (ws := [4]) (vs := [4]) (l := g) (h := rowD) (W := WT) (fun r => .tup ((leds led r).map iD)) (It.tup (.var (i := 0) rfl)) (by rw [hg.len]; exact sl_ge _ (by omega)) trivial (fun _ h => h) fun r hr => ⟨[.d (gateD g), .c none (.lst (led.map iD)), x2, x3, .d (rowD r), .any, .any], Tg.nm 4 _, ?_, rfl⟩
  have z := ExN.lc (P := [.d (gateD g), .c none (.lst (led.map iD)), x2, x3, .d (rowD r), .any, .any]) (P1 := [.d (gateD g), .c none (.lst (led.map iD)), x2, x3, .d (rowD r), .any, .any]) (it := iVal (dVar 4)) (g := gTp 2 (gsCons (gNm 5) (gsCons (gNm 6) gsNil))) (te := dBin vIx (dVar 1) (dVar 6)) (ws := [5, 6]) (vs := [5, 6]) (l := r) (h := pairD) (W := WT) (fun p => iD (led.getD p.2 0)) (It.tup (.var (i := 4) rfl)) (by rw [hg.rows r hr]; exact sl_ge _ (by omega)) trivial (fun _ h => h) fun p hp => ⟨_, Tg.tp2 5 6 _ _, .binH (Hd.var (i := 1) rfl) (.var (i := 6) rfl) ⟨none, rfl⟩ (t_ixL (ledAt hl (hg.rng r hr p hp).2)), rfl⟩
  have e : (leds led r).map iD = r.map fun p => iD (led.getD p.2 0) := by unfold leds; rw [List.map_map]; rfl
  rw [e]
  exact .tupleN z
theorem outs_ex (hg : Rg s m g) (s9 : s ≤ 20) (m9 : m ≤ 50) {x1 x2 x3 : PV} : ExN [.d (gateD g), x1, x2, x3, .any, .any, .any] (dLc (iVal (dVar 0)) (gNm 4) dYes (dCall bTuple (aCons (dLc (iVal (dVar 4)) (gTp 2 (gsCons (gNm 5) (gsCons (gNm 6) gsNil))) dYes (dVar 5) [5, 6]) aNil)) [4]) (.lst (g.map fun r => .tup ((r.map (·.1)).map iD))) [.d (gateD g), x1, x2, x3, .any, .any, .any] := by
  refine ExN.lc (P := [.d (gateD g), x1, x2, x3, .any, .any, .any]) (P1 := [.d (gateD g), x1, x2, x3, .any, .any, .any]) (it := iVal (dVar 0)) (g := gNm 4) (ws := [4]) (vs := [4]) (l := g) (h := rowD) (W := WT) (fun r => .tup ((r.map (·.1)).map iD)) (It.tup (.var (i := 0) rfl)) (by rw [hg.len]; exact sl_ge _ (by omega)) trivial (fun _ h => h) fun r hr => ⟨[.d (gateD g), x1, x2, x3, .d (rowD r), .any, .any], Tg.nm 4 _, ?_, rfl⟩
  have z := ExN.lc (P := [.d (gateD g), x1, x2, x3, .d (rowD r), .any, .any]) (P1 := [.d (gateD g), x1, x2, x3, .d (rowD r), .any, .any]) (it := iVal (dVar 4)) (g := gTp 2 (gsCons (gNm 5) (gsCons (gNm 6) gsNil))) (te := dVar 5) (ws := [5, 6]) (vs := [5, 6]) (l := r) (h := pairD) (W := WT) (fun p => iD p.1) (It.tup (.var (i := 4) rfl)) (by rw [hg.rows r hr]; exact sl_ge _ (by omega)) trivial (fun _ h => h) fun p hp => ⟨_, Tg.tp2 5 6 _ _, .var (i := 5) rfl, rfl⟩
  have e : (r.map (·.1)).map iD = r.map fun p => iD p.1 := by rw [List.map_map]; rfl
  rw [e]
  exact .tupleN z
noncomputable def FPart : DF := dDef 1 7 (K42.den_parted_marks FNumbered)
/-- marks numbered by their kinds -/
structure Kinds (g : Gate) (m : Nat) (R : Nat → Nat → Bool) : Prop where
  eqv : Eqv m R
  bis : ∀ a b, a < m → b < m → (R a b = true ↔ Bis (rowG g) (rowG g) a b)
theorem part_walk (hg : Rg s m g) (s9 : s ≤ 20) (m0 : 0 < m) (m9 : m ≤ 50) : ∃ R, Kinds g m R ∧ ∀ S, ∃ r q, FPart [gateD g] S = .ok (.ref r) (S ++ q) ∧ S.length ≤ r ∧ (S ++ q)[r]? = some (.lst ((ledS R m).1.map iD)) := by
  obtain ⟨row, hrow⟩ : ∃ row, row = rowG g := ⟨_, rfl⟩
  have W : Rw s m row := hrow ▸ rw_of hg
  obtain ⟨L, hL⟩ : ∃ L : Nat → List Nat, L = fun k => (ledS (Rk row m k) m).1 := ⟨_, rfl⟩
  have hLe : ∀ k, L k = (ledS (Rk row m k) m).1 := fun k => by rw [hL]
  have hLl : ∀ k, (L k).length = m := fun k => by rw [hLe]; exact (led_k k).len
  have hLn : ∀ k, L k ≠ [] := fun k z => by have := hLl k; rw [z, List.length_nil] at this; omega
  have gget : ∀ i, i < m → g[i]? = some (row i) := fun i hi => by rw [hrow]; exact (rowOf hg hi).1
  have mx : ∀ (k : Nat) {x2 x3}, Ex (pP g (L k) x2 x3) (dBin vAdd (dCall bMaxL (aCons (dVar 1) aNil)) (dC (.int 1))) (.int ((cls row m k : Nat) : Int)) (pP g (L k) x2 x3) := fun k {x2 x3} => by
    have z := Ex.bin (P := pP g (L k) x2 x3) (.callH (Hd.var (i := 1) rfl) ⟨none, rfl⟩ (t_max (hLn k))) (.con (.int 1)) t_add
    rw [hLe k, max_led (led_k k) m0] at z
    rw [hLe k]
    exact z
  -- one turn
  have turn : ∀ k {x2 x3}, ∃ x3', QS (pP g (L k) x2 x3) (dSeq (dAsg (dLc (iVal (dVar 0)) (gNm 4) dYes (dCall bTuple (aCons (dLc (iVal (dVar 4)) (gTp 2 (gsCons (gNm 5) (gsCons (gNm 6) gsNil))) dYes (dBin vIx (dVar 1) (dVar 6)) [5, 6]) aNil)) [4]) (gNm 3)) (dAsg (dCall FNumbered (aCons (dLc (iEnumD (aCons (dVar 3) aNil)) (gTp 2 (gsCons (gNm 6) (gsCons (gNm 4) gsNil))) dYes (dTup (aCons (dBin vIx (dVar 1) (dVar 6)) (aCons (dVar 4) aNil))) [6, 4]) aNil)) (gNm 1))) (.nx (pP g (L (k + 1)) x2 x3')) := fun k {x2 x3} => by
    refine ⟨.any, QS.seq (.asgN (rows_ex hg s9 m9 (hLl k))) (QS.name (i := 3) (o := none) (c := .lst (g.map fun r => .tup ((leds (L k) r).map iD))) rfl fun w => ?_)⟩
    have en := ExN.lc (P := pP g (L k) x2 (.c (some w) (.lst (g.map fun r => .tup ((leds (L k) r).map iD))))) (P1 := pP g (L k) x2 (.c (some w) (.lst (g.map fun r => .tup ((leds (L k) r).map iD))))) (it := iEnumD (aCons (dVar 3) aNil)) (g := gTp 2 (gsCons (gNm 6) (gsCons (gNm 4) gsNil))) (te := dTup (aCons (dBin vIx (dVar 1) (dVar 6)) (aCons (dVar 4) aNil))) (ws := [6, 4]) (vs := [6, 4]) (l := g.zipIdx) (h := fun z => .tup [iD z.2, .tup ((leds (L k) z.1).map iD)]) (W := WL 3 w (g.map fun r => .tup ((leds (L k) r).map iD))) (fun z => .tup [iD ((L k).getD z.2 0), .tup ((leds (L k) z.1).map iD)]) (by
      have h := It.enumOwn (P := pP g (L k) x2 (.c (some w) (.lst (g.map fun r => .tup ((leds (L k) r).map iD))))) (j := 3) rfl
      rw [enum_map] at h
      exact h) (by rw [List.length_zipIdx, hg.len]; exact sl_ge _ (by omega)) rfl (fun _ h => h) fun z hz => ⟨_, Tg.tp2 6 4 _ _, .tup2 (.binH (Hd.var (i := 1) rfl) (.var (i := 6) rfl) ⟨none, rfl⟩ (t_ixL (ledAt (hLl k) (by
      obtain ⟨q, hq⟩ := List.getElem?_of_mem hz
      rw [List.getElem?_zipIdx] at hq
      obtain ⟨r, hr, e⟩ := Option.map_eq_some_iff.mp hq
      have := (List.getElem?_eq_some_iff.mp hr).1
      rw [hg.len] at this
      rw [← e]
      show 0 + q < m
      omega)))) (.var (i := 4) rfl), rfl⟩
    have nm := callNum (key := keyS row (numAt row m (Rk row m k))) en (fun i x hx => by
      rw [List.getElem?_map, List.getElem?_zipIdx] at hx
      obtain ⟨z, hz, rfl⟩ := Option.map_eq_some_iff.mp hx
      obtain ⟨r, hr, rfl⟩ := Option.map_eq_some_iff.mp hz
      have hi := (List.getElem?_eq_some_iff.mp hr).1
      rw [hg.len] at hi
      rw [gget i hi] at hr
      cases hr
      rw [nkey2]
      show some (NestedKey.tup [.num (((L k).getD (0 + i) 0 : Nat) : Int), .tup ((leds (L k) (row i)).map fun n => NestedKey.num (n : Nat))]) = some (keyS row (numAt row m (Rk row m k)) i)
      rw [Nat.zero_add, hLe]
      rfl) (by rw [List.length_map, List.length_zipIdx, hg.len]; omega)
    rw [keyS_eq, List.length_map, List.length_zipIdx, hg.len, ← hLe] at nm
    exact QS.post (.asgN nm) fun f E S t => t.forget 3
  obtain ⟨o, ⟨k, x2, x3, hk, rfl⟩, hw⟩ := QS.whileP (P := pP g (L 0) (.d (.int ((0 : Nat) : Int))) .any) (nb := dTest (dBin vLt (dVar 2) (dBin vAdd (dCall bMaxL (aCons (dVar 1) aNil)) (dC (.int 1))))) (s := dSeq (dAsg (dBin vAdd (dCall bMaxL (aCons (dVar 1) aNil)) (dC (.int 1))) (gNm 2)) (dSeq (dAsg (dLc (iVal (dVar 0)) (gNm 4) dYes (dCall bTuple (aCons (dLc (iVal (dVar 4)) (gTp 2 (gsCons (gNm 5) (gsCons (gNm 6) gsNil))) dYes (dBin vIx (dVar 1) (dVar 6)) [5, 6]) aNil)) [4]) (gNm 3)) (dAsg (dCall FNumbered (aCons (dLc (iEnumD (aCons (dVar 3) aNil)) (gTp 2 (gsCons (gNm 6) (gsCons (gNm 4) gsNil))) dYes (dTup (aCons (dBin vIx (dVar 1) (dVar 6)) (aCons (dVar 4) aNil))) [6, 4]) aNil)) (gNm 1))))
    (fun j P => ∃ k many x3, P = pP g (L k) (.d (.int ((many : Nat) : Int))) x3 ∧ ((k = 0 ∧ many = 0) ∨ ∃ k', k = k' + 1 ∧ many = cls row m k') ∧ j = m - many) (fun o => ∃ k x2 x3, cls row m (k + 1) ≤ cls row m k ∧ o = .nx (pP g (L (k + 1)) x2 x3)) (j := m) ⟨0, 0, .any, rfl, .inl ⟨rfl, rfl⟩, rfl⟩ (by unfold FU; omega) (by
    rintro j P ⟨k, many, x3, rfl, hk, rfl⟩
    refine ⟨decide (((many : Nat) : Int) < ((cls row m k : Nat) : Int)), pP g (L k) (.d (.int ((many : Nat) : Int))) x3, .test (.bin (.var (i := 2) rfl) (mx k) fun S => rfl), fun hb => ?_, fun hb => ?_⟩
    · have hb := of_decide_eq_false hb
      rcases hk with ⟨rfl, rfl⟩ | ⟨k', rfl, rfl⟩
      · have : 0 < cls row m 0 := (led_k 0).pos m0
        omega
      · exact ⟨k', _, _, by omega, rfl⟩
    · have hb := of_decide_eq_true hb
      have hc := cls_le (row := row) (m := m) k
      obtain ⟨x3', ht⟩ := turn k (x2 := .d (.int ((cls row m k : Nat) : Int))) (x3 := x3)
      exact ⟨_, QS.seq (.asg (mx k)) ht, m - cls row m k, by omega, k + 1, cls row m k, x3', rfl, .inr ⟨k, rfl, rfl⟩, rfl⟩)
  refine ⟨Rk row m (k + 1), ⟨eqv_k _, fun a b ha hb => by rw [← hrow]; exact part_ok W hk ha hb⟩, fun S => ?_⟩
  have n0 := callNum (key := key0 row) (outs_ex hg s9 m9 (x1 := .any) (x2 := .any) (x3 := .any)) (fun i x hx => by
    rw [List.getElem?_map] at hx
    obtain ⟨r, hr, rfl⟩ := Option.map_eq_some_iff.mp hx
    have hi := (List.getElem?_eq_some_iff.mp hr).1
    rw [hg.len] at hi
    rw [gget i hi] at hr
    cases hr
    exact nkey1 _) (by rw [List.length_map, hg.len]; omega)
  rw [key0_eq (m := m), List.length_map, hg.len, ← hLe] at n0
  rw [← hLe]
  refine fn_new (Ps := [.d (gateD g)]) (P' := (pP g (L (k + 1)) x2 x3).set 1 .any) rfl (c := .lst ((L (k + 1)).map iD)) ?_ (fun i r c h => ?_) (by simp [Qn.addrs]) ⟨rfl, trivial⟩
  · unfold K42.den_parted_marks
    refine QS.seq (P1 := pP g (L 0) .any .any) (.asgN n0) (QS.seq (P1 := pP g (L 0) (.d (.int ((0 : Nat) : Int))) .any) (.asg (.con _)) (QS.seq hw ?_))
    exact QS.retV (i := 1) rfl
  · match i, h with
    | 0, h => cases h
end
end Pk
set_option Elab.async false
set_option linter.all false
set_option maxHeartbeats 1000000
set_option maxRecDepth 100000
/-! Pk5: k42: the least gate, walked -/
namespace Pk
open PySem PySem.Spec L2 Dn Pn Qn TL Pw Pa
section
variable {P P1 P2 P' : Qn.PE} {i j n s m k : Nat} {o : Option Nat} {x y v : D} {g : Gate} {xs : List D} {led : List Nat} {q : List Nat × List Nat} {R : Nat → Nat → Bool}
theorem idx_first : ∀ {l : List Nat} {r z : Nat}, l[r]? = some z → (∀ j, j < r → l[j]? ≠ some z) → firstEq (l.map fun i => PyData.int (i : Nat)) (.int (z : Nat)) = some r
  | [], _, _, h, _ => by simp at h
  | q :: l, 0, z, h, _ => by
    simp at h
    subst h
    unfold firstEq
    rw [List.map_cons, List.findIdx?_cons]
    simp [PyData.eqv]
  | q :: l, r + 1, z, h, hn => by
    have hz : q ≠ z := fun e => hn 0 (by omega) (by rw [e]; rfl)
    have ih := idx_first (l := l) (r := r) (z := z) (by simpa using h) fun j hj e => hn (j + 1) (by omega) (by simpa using e)
    unfold firstEq at ih ⊢
    rw [List.map_cons, List.findIdx?_cons, ih]
    have : PyData.eqv (.int (q : Nat)) (.int (z : Nat)) = false := by
      simp only [PyData.eqv]
      simp; omega
    rw [this]
    rfl
theorem t_index1 {l : List Nat} {r z : Nat} (h : l[r]? = some z) (hn : ∀ j, j < r → l[j]? ≠ some z) : ∀ S n, S[n]? = some (.lst (l.map iD)) → mIndex (.ref n) [.int (z : Nat)] S = .ok (.int (r : Nat)) S := fun S n e => by
  unfold mIndex
  dsimp only
  rw [e, show toPy S (.int (z : Nat)) = some (.int (z : Nat)) from rfl]
  dsimp only
  rw [show l.map iD = l.map fun i => D.int (i : Nat) from rfl, ints_py]
  dsimp only
  rw [((Ok.int _).shaped (by decide)), ((Ok.lst (k := 0) fun p hp => by
    obtain ⟨i, _, rfl⟩ := List.mem_map.mp hp
    exact .int _).shaped (by decide)), idx_first h hn]
  rfl
theorem range_getD {α : Type} {F : Nat → α} (l : List Nat) : (List.range l.length).map (fun k => F (l.getD k 0)) = l.map F := by
  apply List.ext_getElem?
  intro i
  rw [List.getElem?_map, List.getElem?_map]
  by_cases h : i < l.length
  · rw [List.getElem?_range h, List.getElem?_eq_getElem h, Option.map_some, Option.map_some, List.getD_eq_getElem?_getD, List.getElem?_eq_getElem h]
    rfl
  · rw [List.getElem?_eq_none (by rw [List.length_range]; omega), List.getElem?_eq_none (by omega)]
    rfl
/-- a row whose marks are numbered anew -/
def thinR (led : List Nat) (r : List (Nat × Nat)) : List (Nat × Nat) := r.map fun p => (p.1, led.getD p.2 0)
def thin (g : Gate) (q : List Nat × List Nat) : Gate := q.2.map fun f => thinR q.1 (rowG g f)
def leastD (g : Gate) (q : List Nat × List Nat) : D := .tup [gateD (thin g q), .tup (q.1.map iD)]
theorem da_led {l : List Nat} : Da 1 (.tup (l.map iD)) := .tup (da_iD (k := 0))
theorem least_da : Da 4 (leastD g q) := .tup fun x hx => by
  simp only [List.mem_cons, List.not_mem_nil, or_false] at hx
  rcases hx with rfl | rfl
  · exact Da.gate _
  · exact Pz.Da.ups da_led 2
noncomputable def FLeast : DF := trimF (dDef 1 7 (K42.den_least_gate FPart))
def lgP (g : Gate) (led : List Nat) (x2 : PV) : Qn.PE := [.d (gateD g), .c none (.lst (led.map iD)), x2, .any, .any, .any, .any]
theorem least_walk (hg : Rg s m g) (s9 : s ≤ 20) (m0 : 0 < m) (m9 : m ≤ 50) : ∃ R, Kinds g m R ∧ OpF [] FLeast [gateD g] (leastD g (ledS R m)) := by
  obtain ⟨R, hK, hp⟩ := part_walk hg s9 m0 m9
  refine ⟨R, hK, ?_⟩
  obtain ⟨q, hq⟩ : ∃ q, q = ledS R m := ⟨_, rfl⟩
  have L := led_ok hK.eqv m (Nat.le_refl _)
  rw [← hq] at hp L ⊢
  have hl := L.len
  have hfew := L.few
  have hne : q.1 ≠ [] := fun z => by rw [z, List.length_nil] at hl; omega
  have a1 : ExN [.d (gateD g), .any, .any, .any, .any, .any, .any] (dCall FPart (aCons (dVar 0) aNil)) (.lst (q.1.map iD)) [.d (gateD g), .any, .any, .any, .any, .any, .any] := .call (.one (.var (i := 0) rfl)) fun S => hp S
  have mx : Ex (lgP g q.1 .any) (dBin vAdd (dCall bMaxL (aCons (dVar 1) aNil)) (dC (.int 1))) (.int ((q.2.length : Nat) : Int)) (lgP g q.1 .any) := by
    have z := Ex.bin (P := lgP g q.1 .any) (.callH (Hd.var (i := 1) rfl) ⟨none, rfl⟩ (t_max hne)) (.con (.int 1)) t_add
    rw [max_led L m0] at z
    exact z
  have a2 : ExN (lgP g q.1 .any) (dLc (iRange1 (aCons (dBin vAdd (dCall bMaxL (aCons (dVar 1) aNil)) (dC (.int 1))) aNil)) (gNm 3) dYes (dBin vIx (dVar 0) (dMeth "list" mIndex (dVar 1) (aCons (dVar 3) aNil))) [3]) (.lst (q.2.map fun f => rowD (rowG g f))) (lgP g q.1 .any) := by
    rw [← range_getD (F := fun f => rowD (rowG g f)) q.2]
    refine ExN.lc (P := lgP g q.1 .any) (P1 := lgP g q.1 .any) (g := gNm 3) (ws := [3]) (vs := [3]) (l := List.range q.2.length) (h := iD) (W := WT) (fun k => rowD (rowG g (q.2.getD k 0))) (by rw [← rng_iD]; exact It.range mx (by omega)) (by rw [List.length_range]; exact sl_ge _ (by omega)) trivial (fun _ h => h) fun k hk => ?_
    have hk := List.mem_range.mp hk
    have e : q.2[k]? = some (q.2.getD k 0) := by rw [List.getD_eq_getElem?_getD, List.getElem?_eq_getElem hk]; rfl
    obtain ⟨c1, c2⟩ := L.C k _ e
    exact ⟨[.d (gateD g), .c none (.lst (q.1.map iD)), .any, .d (iD k), .any, .any, .any], Tg.nm 3 _, ixG (.var (i := 0) rfl) (.methR (j := 1) rfl (fun S n e => recvL e) (.one (.var (i := 3) rfl)) rfl (t_index1 c1 c2)) hg (L.lt _ (List.mem_of_getElem? e)), rfl⟩
  have a3 : ∀ w, Ex (lgP g q.1 (.c (some w) (.lst (q.2.map fun f => rowD (rowG g f))))) (dTup (aCons (dCall bTuple (aCons (dLc (iVal (dVar 2)) (gNm 4) dYes (dCall bTuple (aCons (dLc (iVal (dVar 4)) (gTp 2 (gsCons (gNm 5) (gsCons (gNm 6) gsNil))) dYes (dTup (aCons (dVar 5) (aCons (dBin vIx (dVar 1) (dVar 6)) aNil))) [5, 6]) aNil)) [4]) aNil)) (aCons (dCall bTuple (aCons (dVar 1) aNil)) aNil))) (leastD g q) (lgP g q.1 (.c (some w) (.lst (q.2.map fun f => rowD (rowG g f))))) := fun w => by
    refine .tup2 ?_ (.tupleH (Hd.var (i := 1) rfl) ⟨none, rfl⟩)
    have z := ExN.lc (P := lgP g q.1 (.c (some w) (.lst (q.2.map fun f => rowD (rowG g f))))) (P1 := lgP g q.1 (.c (some w) (.lst (q.2.map fun f => rowD (rowG g f))))) (it := iVal (dVar 2)) (g := gNm 4) (te := dCall bTuple (aCons (dLc (iVal (dVar 4)) (gTp 2 (gsCons (gNm 5) (gsCons (gNm 6) gsNil))) dYes (dTup (aCons (dVar 5) (aCons (dBin vIx (dVar 1) (dVar 6)) aNil))) [5, 6]) aNil)) (ws := [4]) (vs := [4]) (l := q.2) (h := fun f => rowD (rowG g f)) (W := WL 2 w (q.2.map fun f => rowD (rowG g f))) (fun f => rowD (thinR q.1 (rowG g f))) (It.own (j := 2) rfl) (sl_ge _ (by omega)) rfl (fun _ h => h) fun f hf => ⟨[.d (gateD g), .c none (.lst (q.1.map iD)), .c (some w) (.lst (q.2.map fun f => rowD (rowG g f))), .any, .d (rowD (rowG g f)), .any, .any], Tg.nm 4 _, by
      have hfm := L.lt f hf
      obtain ⟨r1, r2⟩ := rowOf hg hfm
      have z2 := ExN.lc (P := [.d (gateD g), .c none (.lst (q.1.map iD)), .c (some w) (.lst (q.2.map fun f => rowD (rowG g f))), .any, .d (rowD (rowG g f)), .any, .any]) (P1 := [.d (gateD g), .c none (.lst (q.1.map iD)), .c (some w) (.lst (q.2.map fun f => rowD (rowG g f))), .any, .d (rowD (rowG g f)), .any, .any]) (it := iVal (dVar 4)) (g := gTp 2 (gsCons (gNm 5) (gsCons (gNm 6) gsNil))) (te := dTup (aCons (dVar 5) (aCons (dBin vIx (dVar 1) (dVar 6)) aNil))) (ws := [5, 6]) (vs := [5, 6]) (l := rowG g f) (h := pairD) (W := WT) (fun p => pairD (p.1, q.1.getD p.2 0)) (It.tup (.var (i := 4) rfl)) (by rw [r2]; exact sl_ge _ (by omega)) trivial (fun _ h => h) fun p hp => ⟨_, Tg.tp2 5 6 _ _, .tup2 (.var (i := 5) rfl) (.binH (Hd.var (i := 1) rfl) (.var (i := 6) rfl) ⟨none, rfl⟩ (t_ixL (ledAt hl (hg.rng _ (List.mem_of_getElem? r1) p hp).2))), rfl⟩
      have e : rowD (thinR q.1 (rowG g f)) = .tup ((rowG g f).map fun p => pairD (p.1, q.1.getD p.2 0)) := by
        unfold rowD thinR
        rw [List.map_map]
        rfl
      rw [e]
      exact .tupleN z2, rfl⟩
    have e : gateD (thin g q) = .tup (q.2.map fun f => rowD (thinR q.1 (rowG g f))) := by
      unfold gateD thin
      rw [List.map_map]
      rfl
    rw [e]
    exact .tupleN z
  refine fn_data (P' := (lgP g q.1 .any)) rfl ?_ (Pz.Da.lt least_da)
  unfold K42.den_least_gate
  refine QS.seq (P1 := lgP g q.1 .any) (.asgN a1) (QS.seq (.asgN a2) (QS.name (i := 2) (o := none) (c := .lst (q.2.map fun f => rowD (rowG g f))) rfl fun w => ?_))
  have z := QS.ret (a3 w)
  exact fun f E S t => by
    have h := z f E S t
    cases e : dRet (dTup (aCons (dCall bTuple (aCons (dLc (iVal (dVar 2)) (gNm 4) dYes (dCall bTuple (aCons (dLc (iVal (dVar 4)) (gTp 2 (gsCons (gNm 5) (gsCons (gNm 6) gsNil))) dYes (dTup (aCons (dVar 5) (aCons (dBin vIx (dVar 1) (dVar 6)) aNil))) [5, 6]) aNil)) [4]) aNil)) (aCons (dCall bTuple (aCons (dVar 1) aNil)) aNil))) E S with
    | rt d S' =>
      rw [e] at h
      obtain ⟨h1, E', h2⟩ := h
      exact ⟨h1, E', h2.forget 2⟩
    | _ => rw [e] at h; exact h.elim
end
end Pk
set_option Elab.async false
set_option linter.all false
set_option maxHeartbeats 1000000
set_option maxRecDepth 100000
/-! Pk6: two marks' pairs gone from the street -/
namespace Pk
abbrev Pr := Nat × Nat
abbrev PD := Pr × Nat
def sideD (d : Nat) (F : List PD) (z : Pr × Pr) : Option (List PD) := if z.1.1 = z.2.1 then some (if (z.1.2, z.2.2) ∈ F.map (·.1) then F else F ++ [((z.1.2, z.2.2), d + 1)]) else none
def visit (d : Nat) : List PD → List (Pr × Pr) → Option (List PD)
  | F, [] => some F
  | F, z :: zs => (sideD d F z).bind fun F' => visit d F' zs
def bfs (ra rb : Rows) : Nat → List PD → Nat → Option Nat × List PD
  | 0, F, _ => (none, F)
  | f + 1, F, i => match F[i]? with
    | none => (none, F)
    | some p => match visit p.2 F ((ra p.1.1).zip (rb p.1.2)) with
      | none => (some (p.2 + 1), F)
      | some F' => bfs ra rb f F' (i + 1)
theorem visit_append {d : Nat} : ∀ {F : List PD} {a b : List (Pr × Pr)}, visit d F (a ++ b) = (visit d F a).bind fun F' => visit d F' b
  | F, [], b => rfl
  | F, z :: a, b => by
    rw [List.cons_append, visit, visit, Option.bind_assoc]
    congr 1
    funext F'
    exact visit_append
structure Ok2 (m n : Nat) (F : List PD) : Prop where
  nd : (F.map (·.1)).Nodup
  rng : ∀ p ∈ F, p.1.1 < m ∧ p.1.2 < n
theorem side_ok {m n d : Nat} {F F' : List PD} {z : Pr × Pr} (h : Ok2 m n F) (hz : z.1.2 < m ∧ z.2.2 < n) (e : sideD d F z = some F') : Ok2 m n F' ∧ (∃ G, F' = F ++ G ∧ ∀ x ∈ G, x.2 = d + 1) ∧ z.1.1 = z.2.1 ∧ (z.1.2, z.2.2) ∈ F'.map (·.1) := by
  unfold sideD at e
  split at e
  · rename_i h0
    cases e
    split
    · rename_i hm
      exact ⟨h, ⟨[], by simp, by simp⟩, h0, hm⟩
    · rename_i hm
      refine ⟨⟨?_, fun p hp => ?_⟩, ⟨_, rfl, fun x hx => by rw [List.mem_singleton.mp hx]⟩, h0, by simp⟩
      · rw [List.map_append, List.nodup_append]
        refine ⟨h.nd, by simp, fun x hx y hy e => hm ?_⟩
        have : y = (z.1.2, z.2.2) := by simpa using hy
        rw [← this, ← e]
        exact hx
      · rcases List.mem_append.mp hp with hp | hp
        · exact h.rng p hp
        · rw [List.mem_singleton.mp hp]
          exact hz
  · cases e
theorem visit_ok {m n d : Nat} : ∀ {zs : List (Pr × Pr)} {F F' : List PD}, Ok2 m n F → (∀ z ∈ zs, z.1.2 < m ∧ z.2.2 < n) → visit d F zs = some F' → Ok2 m n F' ∧ (∃ G, F' = F ++ G ∧ ∀ x ∈ G, x.2 = d + 1) ∧ ∀ z ∈ zs, z.1.1 = z.2.1 ∧ (z.1.2, z.2.2) ∈ F'.map (·.1)
  | [], F, F', h, _, e => by
    cases e
    exact ⟨h, ⟨[], by simp, by simp⟩, fun z hz => by cases hz⟩
  | z :: zs, F, F', h, hz, e => by
    rw [visit] at e
    obtain ⟨F1, e1, e2⟩ := Option.bind_eq_some_iff.mp e
    obtain ⟨h1, ⟨G1, g1, g2⟩, q1, q2⟩ := side_ok h (hz z (List.mem_cons_self ..)) e1
    obtain ⟨h2, ⟨G2, g3, g4⟩, q3⟩ := visit_ok h1 (fun y hy => hz y (List.mem_cons_of_mem _ hy)) e2
    refine ⟨h2, ⟨G1 ++ G2, by rw [g3, g1, List.append_assoc], fun x hx => ?_⟩, fun y hy => ?_⟩
    · rcases List.mem_append.mp hx with hx | hx
      · exact g2 x hx
      · exact g4 x hx
    · rcases List.mem_cons.mp hy with rfl | hy
      · refine ⟨q1, ?_⟩
        rw [g3, List.map_append]
        exact List.mem_append_left _ q2
      · exact q3 y hy
def allP2 : Nat → Nat → List Pr
  | 0, _ => []
  | m + 1, n => allP2 m n ++ (List.range n).map fun j => (m, j)
theorem allP2_len : ∀ m n, (allP2 m n).length = m * n
  | 0, n => by simp [allP2]
  | m + 1, n => by
    rw [allP2, List.length_append, allP2_len m n, List.length_map, List.length_range, Nat.add_mul, Nat.one_mul]
theorem allP2_mem : ∀ {m n : Nat} {p : Pr}, p.1 < m → p.2 < n → p ∈ allP2 m n
  | 0, _, _, h, _ => by omega
  | m + 1, n, p, h, h2 => by
    rw [allP2]
    by_cases e : p.1 < m
    · exact List.mem_append.mpr (.inl (allP2_mem e h2))
    · refine List.mem_append.mpr (.inr (List.mem_map.mpr ⟨p.2, List.mem_range.mpr h2, ?_⟩))
      have : m = p.1 := by omega
      rw [this]
theorem Ok2.few {m n : Nat} {F : List PD} (h : Ok2 m n F) : F.length ≤ m * n := by
  have e := count_in h.nd fun p hp => by
    obtain ⟨q, hq, rfl⟩ := List.mem_map.mp hp
    exact allP2_mem (h.rng q hq).1 (h.rng q hq).2
  rwa [allP2_len, List.length_map] at e
theorem zip_lt {s m n : Nat} {ra rb : Rows} (A : Rw s m ra) (B : Rw s n rb) {p : Pr} (h1 : p.1 < m) (h2 : p.2 < n) : ∀ z ∈ (ra p.1).zip (rb p.2), z.1.2 < m ∧ z.2.2 < n := fun z hz => by
  obtain ⟨a, b⟩ := List.of_mem_zip (show (z.1, z.2) ∈ _ from hz)
  exact ⟨A.lt _ h1 _ a, B.lt _ h2 _ b⟩
theorem outs_of {s m n : Nat} {ra rb : Rows} (A : Rw s m ra) (B : Rw s n rb) {p : Pr} (h1 : p.1 < m) (h2 : p.2 < n) (h : ∀ z ∈ (ra p.1).zip (rb p.2), z.1.1 = z.2.1) : (ra p.1).map (·.1) = (rb p.2).map (·.1) := by
  apply List.ext_getElem?
  intro i
  rw [List.getElem?_map, List.getElem?_map]
  have l1 := A.len _ h1
  have l2 := B.len _ h2
  by_cases hi : i < s
  · have e1 : (ra p.1)[i]? = some ((ra p.1)[i]'(by omega)) := List.getElem?_eq_getElem _
    have e2 : (rb p.2)[i]? = some ((rb p.2)[i]'(by omega)) := List.getElem?_eq_getElem _
    have := h ((ra p.1)[i]'(by omega), (rb p.2)[i]'(by omega)) (List.mem_of_getElem? (i := i) (List.getElem?_zip_eq_some.mpr ⟨e1, e2⟩))
    rw [e1, e2]
    exact congrArg some this
  · rw [List.getElem?_eq_none (by omega), List.getElem?_eq_none (by omega)]
/-- alike where all are gone -/
theorem bfs_alike {s m n : Nat} {ra rb : Rows} (A : Rw s m ra) (B : Rw s n rb) : ∀ (f : Nat) (F : List PD) (i : Nat) (F' : List PD), Ok2 m n F → m * n < f + i → (∀ j p, j < i → F[j]? = some p → ∀ z ∈ (ra p.1.1).zip (rb p.1.2), z.1.1 = z.2.1 ∧ (z.1.2, z.2.2) ∈ F.map (·.1)) → bfs ra rb f F i = (none, F') → (∃ G, F' = F ++ G) ∧ Ok2 m n F' ∧ ∀ p ∈ F', ∀ z ∈ (ra p.1.1).zip (rb p.1.2), z.1.1 = z.2.1 ∧ (z.1.2, z.2.2) ∈ F'.map (·.1)
  | 0, F, i, F', h, hf, hd, e => by
    cases e
    refine ⟨⟨[], by simp⟩, h, fun p hp => ?_⟩
    obtain ⟨j, hj⟩ := List.getElem?_of_mem hp
    have := (List.getElem?_eq_some_iff.mp hj).1
    have := h.few
    exact hd j p (by omega) hj
  | f + 1, F, i, F', h, hf, hd, e => by
    unfold bfs at e
    split at e
    · rename_i hn
      cases e
      refine ⟨⟨[], by simp⟩, h, fun p hp => ?_⟩
      obtain ⟨j, hj⟩ := List.getElem?_of_mem hp
      have h1 := (List.getElem?_eq_some_iff.mp hj).1
      have h2 := List.getElem?_eq_none_iff.mp hn
      exact hd j p (by omega) hj
    · rename_i p hp
      split at e
      · cases e
      · rename_i F1 hv
        obtain ⟨p1, p2⟩ := h.rng p (List.mem_of_getElem? hp)
        obtain ⟨h1, ⟨G, g1, _⟩, q⟩ := visit_ok h (zip_lt A B p1 p2) hv
        obtain ⟨⟨G2, e2⟩, r2, r3⟩ := bfs_alike A B f F1 (i + 1) F' h1 (by omega) (fun j p' hj hp' => by
          have hl := (List.getElem?_eq_some_iff.mp hp).1
          rw [g1, List.getElem?_append_left (by omega)] at hp'
          by_cases hji : j < i
          · intro z hz
            obtain ⟨a, b⟩ := hd j p' hji hp' z hz
            exact ⟨a, by rw [g1, List.map_append]; exact List.mem_append_left _ b⟩
          · have : j = i := by omega
            subst this
            rw [hp] at hp'
            cases hp'
            exact q) e
        exact ⟨⟨G ++ G2, by rw [e2, g1, List.append_assoc]⟩, r2, r3⟩
theorem visit_bis {ra rb : Rows} {d : Nat} : ∀ {zs : List (Pr × Pr)} {F : List PD}, (∀ p ∈ F, Bis ra rb p.1.1 p.1.2) → (∀ z ∈ zs, z.1.1 = z.2.1 ∧ Bis ra rb z.1.2 z.2.2) → ∃ F', visit d F zs = some F' ∧ ∀ p ∈ F', Bis ra rb p.1.1 p.1.2
  | [], F, h, _ => ⟨F, rfl, h⟩
  | z :: zs, F, h, hz => by
    obtain ⟨a, b⟩ := hz z (List.mem_cons_self ..)
    have e : sideD d F z = some (if (z.1.2, z.2.2) ∈ F.map (·.1) then F else F ++ [((z.1.2, z.2.2), d + 1)]) := if_pos a
    obtain ⟨F', e2, h2⟩ := visit_bis (zs := zs) (d := d) (F := if (z.1.2, z.2.2) ∈ F.map (·.1) then F else F ++ [((z.1.2, z.2.2), d + 1)]) (fun p hp => by
      split at hp
      · exact h p hp
      · rcases List.mem_append.mp hp with hp | hp
        · exact h p hp
        · rw [List.mem_singleton.mp hp]; exact b) fun y hy => hz y (List.mem_cons_of_mem _ hy)
    exact ⟨F', by rw [visit, e]; exact e2, h2⟩
theorem bfs_bis {ra rb : Rows} : ∀ (f : Nat) (F : List PD) (i : Nat), (∀ p ∈ F, Bis ra rb p.1.1 p.1.2) → (bfs ra rb f F i).1 = none
  | 0, _, _, _ => rfl
  | f + 1, F, i, h => by
    unfold bfs
    split
    · rfl
    · rename_i p hp
      have hb := (h p (List.mem_of_getElem? hp)).step
      obtain ⟨F', e, h'⟩ := visit_bis (d := p.2) (zs := (ra p.1.1).zip (rb p.1.2)) h fun z hz => by
        obtain ⟨i, hi⟩ := List.getElem?_of_mem hz
        obtain ⟨e1, e2⟩ := List.getElem?_zip_eq_some.mp hi
        refine ⟨?_, hb.2 i _ _ e1 e2⟩
        have e3 : ((ra p.1.1).map (·.1))[i]? = ((rb p.1.2).map (·.1))[i]? := by rw [hb.1]
        rw [List.getElem?_map, List.getElem?_map, e1, e2] at e3
        exact Option.some.inj e3
      rw [e]
      exact bfs_bis f F' (i + 1) h'
/-- the pairs gone from two marks -/
def gone (ra rb : Rows) (m n a b : Nat) : Option Nat × List PD := bfs ra rb (m * n + 1) [((a, b), 0)] 0
theorem ok2_start {m n a b : Nat} (ha : a < m) (hb : b < n) : Ok2 m n [((a, b), 0)] := ⟨by simp, fun p hp => by rw [List.mem_singleton.mp hp]; exact ⟨ha, hb⟩⟩
theorem gone_iff {s m n a b : Nat} {ra rb : Rows} (A : Rw s m ra) (B : Rw s n rb) (ha : a < m) (hb : b < n) : (gone ra rb m n a b).1 = none ↔ Bis ra rb a b := by
  constructor
  · intro e
    obtain ⟨F', hF⟩ : ∃ F', gone ra rb m n a b = (none, F') := ⟨_, Prod.ext e rfl⟩
    obtain ⟨⟨G, g1⟩, h1, h2⟩ := bfs_alike A B (m * n + 1) [((a, b), 0)] 0 F' (ok2_start ha hb) (by omega) (fun j p hj => by omega) hF
    refine ⟨fun x y => (x, y) ∈ F'.map (·.1), by rw [g1]; simp, fun x y hxy => ?_⟩
    obtain ⟨p, hp, e2⟩ := List.mem_map.mp hxy
    have ex : p.1.1 = x := congrArg Prod.fst e2
    have ey : p.1.2 = y := congrArg Prod.snd e2
    obtain ⟨r1, r2⟩ := h1.rng p hp
    have hz := h2 p hp
    rw [ex, ey] at hz
    rw [ex] at r1
    rw [ey] at r2
    refine ⟨outs_of (p := (x, y)) A B r1 r2 fun z hz' => (hz z hz').1, fun i u v eu ev => (hz (u, v) (List.mem_of_getElem? (i := i) (List.getElem?_zip_eq_some.mpr ⟨eu, ev⟩))).2⟩
  · intro h
    exact bfs_bis _ _ _ fun p hp => by rw [List.mem_singleton.mp hp]; exact h
end Pk
set_option Elab.async false
set_option linter.all false
set_option maxHeartbeats 1000000
set_option maxRecDepth 100000
/-! Pk7: k42: the law's own going from the street, walked -/
namespace Pk
open PySem PySem.Spec L2 Dn Pn Qn TL Pw Pa
section
variable {P P1 P2 P' : Qn.PE} {i j n s m k a b l d many : Nat} {o : Option Nat} {x y v : D} {g h : Gate} {F : List PD} {p : Pr} {c : Cell} {mk mv : DE} {ds : List D} {ks : List Key} {x5 x6 x7 x8 x9 x10 x11 x12 : PV}
/-! ### rules -/
theorem QS.move [KF] (hP : P[i]? = some (.c o c)) (hij : i ≠ j) : QS P (dAsg (dVar i) (gNm j)) (.nx ((P.set i .any).set j (.c none c))) := fun f E S t => by
  obtain ⟨n, e1, e2, e3, _⟩ := t.cell hP
  have hv : dVar i E S = .ok (.ref n) S := by unfold dVar; rw [e1]
  have q : dAsg (dVar i) (gNm j) E S = .nx (E.set j (some (.ref n))) S := by rw [e_asg, hv, R.toS_ok]; rfl
  rw [q]
  refine (t.forget i).set j _ _ ⟨n, rfl, e2, e3, fun _ z => by cases z⟩ fun o' c' n' z1 z2 r oj cj hr er q => ?_
  cases z2
  rcases getS er with ⟨_, z, _⟩ | ⟨hne, er⟩
  · cases z
  · exact hne (t.sep i r _ _ _ _ n hP er e1 q)
theorem ExN.dispT [KF] (hk : Ex P mk (.tup ds) P1) (hv : Ex P1 mv y P2) (e : keysOf ds = some ks) : ExN P (dDispT mk mv) (.dT [(ks, y)]) P2 := fun f E S s => by
  obtain ⟨s0, hn⟩ := s.alloc (.dT [])
  have up : ∀ n c, KF.k n = some c → f n = some c := s.kn
  obtain ⟨S1, e1, s1⟩ := hk _ E _ s0
  obtain ⟨S2, e2, s2⟩ := hv _ E S1 s1
  refine ⟨S.length, S2.set S.length (.dT [(ks, y)]), ?_, hn, s2.rewr hn up _⟩
  unfold dDispT
  rw [e1, Dn.R.bind_ok, e2, Dn.R.bind_ok]
  unfold endT
  rw [s2.addc]
  dsimp only
  rw [e]
/-! ### pairs sorted -/
def srt (F : List Pr) : List Pr := (sortP (F.map fun p => ((p.1 : Int), (p.2 : Int)))).map fun q => (q.1.toNat, q.2.toNat)
theorem t_sorted (F : List Pr) : ∀ S n, S[n]? = some (.lst (F.map pairD)) → bSorted [.ref n] S = .ok (.ref S.length) (S ++ [.lst ((srt F).map pairD)]) := fun S n e => by
  unfold bSorted
  dsimp only
  have el : lstAt (.ref n) S = some (F.map pairD) := by unfold lstAt; dsimp only; rw [e]
  rw [el]
  show (match prsOf (F.map pairD) with
  | some ps => alloc (.lst ((sortP ps).map Dn.prD)) S
  | none => .bad) = _
  rw [prsOf_pairs]
  dsimp only
  have em : (sortP (F.map fun p => ((p.1 : Int), (p.2 : Int)))).map Dn.prD = (srt F).map pairD := by
    unfold srt
    rw [List.map_map]
    refine List.map_congr_left fun q hm => ?_
    obtain ⟨p, _, rfl⟩ := List.mem_map.mp ((sortP_perm _).mem_iff.mp hm)
    show Dn.prD _ = pairD _
    simp [Dn.prD, pairD]
  rw [em]
  rfl
/-! ### the dict of pairs -/
abbrev dct (ps : List Pr) : List (List Key × D) := ps.foldl (putP (.bl true)) []
theorem dct_snoc {ps : List Pr} : dct (ps ++ [p]) = putD (dct ps) (pk p) (.bl true) := by
  unfold dct
  rw [List.foldl_append]
  rfl
theorem dct_eq : ∀ {ps : List Pr}, ps.Nodup → dct ps = ps.map fun p => (pk p, .bl true) := fun {ps} => by
  suffices q : ∀ r : List Pr, r.reverse.Nodup → dct r.reverse = r.reverse.map fun p => (pk p, D.bl true) by
    have := q ps.reverse
    rwa [List.reverse_reverse] at this
  intro r
  induction r with
  | nil => intro _; rfl
  | cons p r ih =>
    intro hn
    rw [List.reverse_cons] at hn ⊢
    rw [List.nodup_append] at hn
    rw [dct_snoc, ih hn.1, List.map_append]
    unfold putD
    rw [if_neg]
    · rfl
    · intro hc
      obtain ⟨kv, h1, h2⟩ := List.any_eq_true.mp hc
      obtain ⟨q, hq, rfl⟩ := List.mem_map.mp h1
      have e := pk_inj (of_decide_eq_true h2)
      exact hn.2.2 q hq p (by simp) e
theorem dct_len {ps : List Pr} (h : ps.Nodup) : (dct ps).length = ps.length := by rw [dct_eq h, List.length_map]
theorem pk_keys : keysOf [.int ((p.1 : Nat) : Int), .int ((p.2 : Nat) : Int)] = some (pk p) := rfl
theorem put_dct {ps : List Pr} (hl : (dct ps).length < sizeLine) : putC (.dT (dct ps)) (pairD p) (.bl true) = some (.dT (dct (ps ++ [p]))) := by
  rw [dct_snoc]
  show (if (dct ps).length < sizeLine then (keysOf [.int ((p.1 : Nat) : Int), .int ((p.2 : Nat) : Int)]).map fun k => Cell.dT (putD (dct ps) k (.bl true)) else none) = _
  rw [if_pos hl]
  rfl
theorem t_listT {ps : List Pr} (hn : ps.Nodup) : ∀ S n, S[n]? = some (.dT (dct ps)) → bListT [.ref n] S = .ok (.ref S.length) (S ++ [.lst (ps.map pairD)]) := fun S n e => by
  unfold bListT
  dsimp only
  rw [e]
  dsimp only
  have : (dct ps).map (fun kv => D.tup (kv.1.map kD)) = ps.map pairD := by
    rw [dct_eq hn, List.map_map]
    rfl
  rw [this]
  rfl
/-! ### the walk -/
abbrev fstP (F : List PD) : List Pr := F.map (·.1)
def pdC (F : List PD) : Cell := .lst ((fstP F).map pairD)
def sP (g h : Gate) (a b : Nat) (F : List PD) (x5 x6 x7 x8 x9 x10 x11 x12 : PV) : Qn.PE := [.d (gateD g), .d (.int (a : Nat)), .d (gateD h), .d (.int (b : Nat)), .c none (.dT (dct (fstP F))), x5, x6, x7, x8, x9, x10, x11, x12]
def partD (many : Nat) : D := .tup [.str "parted", .int (many : Nat)]
def innerS : DS := dFor (iZipD (aCons (dBin vIx (dVar 0) (dVar 8)) (aCons (dBin vIx (dVar 2) (dVar 9)) aNil))) (gTp 2 (gsCons (gNm 10) (gsCons (gNm 11) gsNil))) (dSeq (dIf (dTest (dBin vNe (dBin vIx (dVar 10) (dC (.int 0))) (dBin vIx (dVar 11) (dC (.int 0))))) (dRet (dTup (aCons (dC (.str "parted")) (aCons (dVar 6) aNil)))) dNext) (dSeq (dAsg (dTup (aCons (dBin vIx (dVar 10) (dC (.int 1))) (aCons (dBin vIx (dVar 11) (dC (.int 1))) aNil))) (gNm 12)) (dIf (dTest (dBin (vIn true) (dVar 12) (dVar 4))) (dSeq (dAsg (dC (.bl true)) (gSb (dVar 4) (dVar 12))) (dDrop (dMeth "list" mAppend (dVar 7) (aCons (dVar 12) aNil)))) dNext)))
abbrev zsP (g h : Gate) (p : Pr) : List (Pr × Pr) := (rowG g p.1).zip (rowG h p.2)
def sPr (g h : Gate) (a b : Nat) (F : List PD) (l : Nat) (x5 : PV) (many : Nat) (p : Pr) (x10 x11 x12 : PV) : Qn.PE := sP g h a b F x5 (.d (.int (many : Nat))) (.c none (pdC (F.drop l))) (.d (.int (p.1 : Nat))) (.d (.int (p.2 : Nat))) x10 x11 x12
theorem visit_walk (hg : Rg s m g) (hh : Rg s n h) (m9 : m ≤ 50) (n9 : n ≤ 50) (hp1 : p.1 < m) (hp2 : p.2 < n) (hF : Ok2 m n F) (hl : l ≤ F.length) :
    ∃ o, ((∃ F' x10 x11 x12, visit d F (zsP g h p) = some F' ∧ Ok2 m n F' ∧ F.length ≤ F'.length ∧ o = .nx (sPr g h a b F' l x5 many p x10 x11 x12)) ∨ (visit d F (zsP g h p) = none ∧ ∃ P', o = .rt (partD many) P')) ∧
      QS (sPr g h a b F l x5 many p x10 x11 x12) innerS o := by
  have mn : m * n ≤ 2500 := Nat.mul_le_mul m9 n9
  obtain ⟨zs, hzs⟩ : ∃ zs, zs = zsP g h p := ⟨_, rfl⟩
  rw [← hzs]
  have zl : ∀ z ∈ zs, z.1.2 < m ∧ z.2.2 < n := hzs ▸ zip_lt (rw_of hg) (rw_of hh) hp1 hp2
  have len : (zipD ((rowG g p.1).map pairD) ((rowG h p.2).map pairD)).length = zs.length := by
    have : ∀ (a b : List Pr), (zipD (a.map pairD) (b.map pairD)).length = (a.zip b).length := fun a => by
      induction a with
      | nil => intro b; cases b <;> rfl
      | cons x a ih =>
        intro b
        cases b with
        | nil => rfl
        | cons y b =>
          rw [List.map_cons, List.map_cons, zipD, List.length_cons, ih b, List.zip_cons_cons, List.length_cons]
    rw [this, hzs]
  refine QS.forP (xs := zipD ((rowG g p.1).map pairD) ((rowG h p.2).map pairD)) (P1 := sPr g h a b F l x5 many p x10 x11 x12) (W := WT) (fun r P => ∃ Fr x10 x11 x12, visit d F (zs.take r) = some Fr ∧ Ok2 m n Fr ∧ F.length ≤ Fr.length ∧ P = sPr g h a b Fr l x5 many p x10 x11 x12) _ (It.zip (ixG (.var (i := 0) rfl) (.var (i := 8) rfl) hg hp1) (ixG (.var (i := 2) rfl) (.var (i := 9) rfl) hh hp2)) ⟨F, _, _, _, rfl, hF, Nat.le_refl _, rfl⟩ (fun _ _ _ => trivial) ?_ ?_
  · rintro P ⟨Fr, x10, x11, x12, h1, h2, h3, rfl⟩
    rw [len, List.take_length] at h1
    exact .inl ⟨Fr, _, _, _, h1, h2, h3, rfl⟩
  · rintro r x P hx ⟨Fr, x10, x11, x12, h1, h2, h3, rfl⟩
    obtain ⟨y, w, y1, w1, rfl⟩ := zipD_get _ _ _ _ hx
    obtain ⟨u, f1, rfl⟩ := map_get y1
    obtain ⟨v, f2, rfl⟩ := map_get w1
    have fz : zs[r]? = some (u, v) := by rw [hzs]; exact kept_get f1 f2
    obtain ⟨z1, z2⟩ := zl _ (List.mem_of_getElem? fz)
    have tk : zs.take (r + 1) = zs.take r ++ [(u, v)] := by rw [List.take_add_one, fz]; rfl
    have vs : visit d F (zs.take (r + 1)) = sideD d Fr (u, v) := by
      rw [tk, visit_append, h1, Option.bind_some, visit]
      cases sideD d Fr (u, v) <;> rfl
    have hfew := h2.few
    have hnd := h2.nd
    have hdl : (dct (fstP Fr)).length < sizeLine := by rw [dct_len hnd, List.length_map]; exact lt_sl (by omega)
    refine ⟨_, sPr g h a b Fr l x5 many p (.d (pairD u)) (.d (pairD v)) x12, .tp2 10 11 _ _, ?_⟩
    have t : ExB (sPr g h a b Fr l x5 many p (.d (pairD u)) (.d (pairD v)) x12) (dTest (dBin vNe (dBin vIx (dVar 10) (dC (.int 0))) (dBin vIx (dVar 11) (dC (.int 0))))) (!decide (((u.1 : Nat) : Int) = ((v.1 : Nat) : Int))) (sPr g h a b Fr l x5 many p (.d (pairD u)) (.d (pairD v)) x12) :=
      .test (.bin (.bin (.var (i := 10) rfl) (.con _) t_pr1) (.bin (.var (i := 11) rfl) (.con _) t_pr1) t_neI)
    by_cases h0 : u.1 = v.1
    · rw [h0, decide_eq_true rfl] at t
      have asg : QS (sPr g h a b Fr l x5 many p (.d (pairD u)) (.d (pairD v)) x12) (dAsg (dTup (aCons (dBin vIx (dVar 10) (dC (.int 1))) (aCons (dBin vIx (dVar 11) (dC (.int 1))) aNil))) (gNm 12)) (.nx (sPr g h a b Fr l x5 many p (.d (pairD u)) (.d (pairD v)) (.d (pairD (u.2, v.2))))) :=
        .asg (.tup2 (.bin (.var (i := 10) rfl) (.con _) (t_pr2 (p := u))) (.bin (.var (i := 11) rfl) (.con _) (t_pr2 (p := v))))
      have t2 : ExB (sPr g h a b Fr l x5 many p (.d (pairD u)) (.d (pairD v)) (.d (pairD (u.2, v.2)))) (dTest (dBin (vIn true) (dVar 12) (dVar 4))) (!decide ((u.2, v.2) ∈ fstP Fr)) (sPr g h a b Fr l x5 many p (.d (pairD u)) (.d (pairD v)) (.d (pairD (u.2, v.2)))) :=
        .test (.binD (.var (i := 12) rfl) (Hd.var (i := 4) rfl) ⟨_, rfl⟩ (knows_dict _))
      by_cases hm : (u.2, v.2) ∈ fstP Fr
      · rw [decide_eq_true hm] at t2
        have es : sideD d Fr (u, v) = some Fr := by
          unfold sideD
          rw [if_pos h0, if_pos hm]
        exact ⟨_, QS.seq (.ifF t .next) (QS.seq asg (.ifF t2 .next)), Fr, _, _, _, vs.trans es, h2, h3, rfl⟩
      · rw [decide_eq_false hm] at t2
        have es : sideD d Fr (u, v) = some (Fr ++ [((u.2, v.2), d + 1)]) := by
          unfold sideD
          rw [if_pos h0, if_neg hm]
        obtain ⟨o2, _, _, _⟩ := side_ok h2 ⟨z1, z2⟩ es
        have a1 : QS (sPr g h a b Fr l x5 many p (.d (pairD u)) (.d (pairD v)) (.d (pairD (u.2, v.2)))) (dAsg (dC (.bl true)) (gSb (dVar 4) (dVar 12))) (.nx ((sPr g h a b Fr l x5 many p (.d (pairD u)) (.d (pairD v)) (.d (pairD (u.2, v.2)))).set 4 (.c none (.dT (dct (fstP (Fr ++ [((u.2, v.2), d + 1)]))))))) := by
          refine .asgT (.con _) (Tg.sbT (j := 4) (o := none) rfl (.var (i := 12) rfl) rfl (fun xs z => by cases z) ?_)
          rw [put_dct hdl]
          show _ = some (Cell.dT (dct ((Fr ++ [((u.2, v.2), d + 1)]).map (·.1))))
          rw [List.map_append]
          rfl
        have a2 := QS.append (P := (sPr g h a b Fr l x5 many p (.d (pairD u)) (.d (pairD v)) (.d (pairD (u.2, v.2)))).set 4 (.c none (.dT (dct (fstP (Fr ++ [((u.2, v.2), d + 1)])))))) (j := 7) (o := none) (xs := (fstP (Fr.drop l)).map pairD) (ys := (fstP (Fr.drop l)).map pairD) rfl (.var (i := 12) rfl) rfl (by rw [List.length_map, List.length_map, List.length_drop]; exact lt_sl (by omega))
        have e3 : Cell.lst ((fstP (Fr.drop l)).map pairD ++ [pairD (u.2, v.2)]) = pdC ((Fr ++ [((u.2, v.2), d + 1)]).drop l) := by
          unfold pdC fstP
          rw [List.drop_append_of_le_length (by omega), List.map_append, List.map_append]
          rfl
        rw [e3] at a2
        exact ⟨_, QS.seq (.ifF t .next) (QS.seq asg (.ifT t2 (QS.seq a1 a2))), Fr ++ [((u.2, v.2), d + 1)], _, _, _, vs.trans es, o2, by rw [List.length_append]; omega, rfl⟩
    · rw [decide_eq_false (by omega)] at t
      have es : sideD d Fr (u, v) = none := by
        unfold sideD
        rw [if_neg h0]
      refine ⟨_, QS.seqL (.ifT t (.ret (.tup2 (.con _) (.var (i := 6) rfl)))), .inr ⟨?_, _, rfl⟩⟩
      rw [← List.take_append_drop (r + 1) zs, visit_append, vs, es]
      rfl
end
end Pk
set_option Elab.async false
set_option linter.all false
set_option maxHeartbeats 1000000
set_option maxRecDepth 100000
/-! Pk8: k42: the law's own going from the street, whole -/
namespace Pk
open PySem PySem.Spec L2 Dn Pn Qn TL Pw Pa
section
variable {i j n s m k a b l d many f w : Nat} {o : Option Nat} {g h : Gate} {F : List PD} {p : Pr} {x5 x6 x7 x8 x9 x10 x11 x12 : PV} {RES : Option Nat × List PD}
def resS : Option Nat × List PD → D
  | (some k, _) => partD k
  | (none, F) => .tup [.str "alike", .tup ((srt (fstP F)).map pairD)]
theorem bfs_end {ra rb : Rows} (h : F.length ≤ l) : bfs ra rb f F l = (none, F) := by
  cases f with
  | zero => rfl
  | succ f =>
    unfold bfs
    rw [List.getElem?_eq_none h]
/-- one layer -/
theorem layer_walk (hg : Rg s m g) (hh : Rg s n h) (m9 : m ≤ 50) (n9 : n ≤ 50) (hF : Ok2 m n F) (hl : l ≤ F.length) (hd : ∀ x ∈ F.drop l, x.2 = d) (hb : bfs (rowG g) (rowG h) f F l = RES) (hf : m * n < f + l) :
    ∃ o, ((∃ F' f' x8 x9 x10 x11 x12, bfs (rowG g) (rowG h) f' F' F.length = RES ∧ m * n < f' + F.length ∧ Ok2 m n F' ∧ F.length ≤ F'.length ∧ (∀ x ∈ F'.drop F.length, x.2 = d + 1) ∧ o = .nx (sP g h a b F' (.c (some w) (pdC (F.drop l))) (.d (.int ((d + 1 : Nat) : Int))) (.c none (pdC (F'.drop F.length))) x8 x9 x10 x11 x12)) ∨ ∃ P', o = .rt (resS RES) P') ∧
      QS (sP g h a b F (.c (some w) (pdC (F.drop l))) (.d (.int ((d + 1 : Nat) : Int))) (.c none (pdC [])) x8 x9 x10 x11 x12) (dFor (iVal (dVar 5)) (gTp 2 (gsCons (gNm 8) (gsCons (gNm 9) gsNil))) innerS) o := by
  have start : sP g h a b F (.c (some w) (pdC (F.drop l))) (.d (.int ((d + 1 : Nat) : Int))) (.c none (pdC [])) x8 x9 x10 x11 x12 = sP g h a b F (.c (some w) (pdC (F.drop l))) (.d (.int ((d + 1 : Nat) : Int))) (.c none (pdC (F.drop F.length))) x8 x9 x10 x11 x12 := by rw [List.drop_length]
  rw [start]
  refine QS.forP (xs := (fstP (F.drop l)).map pairD) (P1 := sP g h a b F (.c (some w) (pdC (F.drop l))) (.d (.int ((d + 1 : Nat) : Int))) (.c none (pdC (F.drop F.length))) x8 x9 x10 x11 x12) (W := WL 5 w ((fstP (F.drop l)).map pairD))
    (fun r P => ∃ Fr fr G x8 x9 x10 x11 x12, Fr = F ++ G ∧ (∀ x ∈ G, x.2 = d + 1) ∧ bfs (rowG g) (rowG h) fr Fr (l + r) = RES ∧ m * n < fr + (l + r) ∧ Ok2 m n Fr ∧ P = sP g h a b Fr (.c (some w) (pdC (F.drop l))) (.d (.int ((d + 1 : Nat) : Int))) (.c none (pdC (Fr.drop F.length))) x8 x9 x10 x11 x12) _ (It.own (j := 5) rfl)
    ⟨F, f, [], _, _, _, _, _, by simp, by simp, hb, hf, hF, rfl⟩ (fun i P ⟨Fr, fr, G, x8, x9, x10, x11, x12, _, _, _, _, _, e⟩ => by subst e; rfl) ?_ ?_
  · rintro P ⟨Fr, fr, G, x8, x9, x10, x11, x12, rfl, h2, h3, h4, h5, rfl⟩
    rw [List.length_map, List.length_map, List.length_drop, show l + (F.length - l) = F.length by omega] at h3 h4
    exact .inl ⟨_, fr, _, _, _, _, _, h3, h4, h5, by rw [List.length_append]; omega, by rw [List.drop_left]; exact h2, rfl⟩
  · rintro r x P hx ⟨Fr, fr, G, x8, x9, x10, x11, x12, rfl, h2, h3, h4, h5, rfl⟩
    rw [List.getElem?_map, List.getElem?_map, List.getElem?_drop] at hx
    obtain ⟨p, hp, rfl⟩ := Option.map_eq_some_iff.mp hx
    obtain ⟨pd, hpd, rfl⟩ := Option.map_eq_some_iff.mp hp
    have hlr := (List.getElem?_eq_some_iff.mp hpd).1
    have hm := List.mem_of_getElem? hpd
    have hpdd : pd.2 = d := hd pd (List.mem_of_getElem? (i := r) (by rw [List.getElem?_drop]; exact hpd))
    obtain ⟨p1, p2⟩ := hF.rng pd hm
    have hfew := hF.few
    obtain ⟨fr, rfl⟩ : ∃ f', fr = f' + 1 := ⟨fr - 1, by omega⟩
    have hget : (F ++ G)[l + r]? = some pd := by rw [List.getElem?_append_left hlr]; exact hpd
    refine ⟨_, sPr g h a b (F ++ G) F.length (.c (some w) (pdC (F.drop l))) (d + 1) pd.1 x10 x11 x12, .tp2 8 9 _ _, ?_⟩
    obtain ⟨o, hc, hq⟩ := visit_walk (d := d) (a := a) (b := b) (l := F.length) (many := d + 1) (x5 := .c (some w) (pdC (F.drop l))) (x10 := x10) (x11 := x11) (x12 := x12) hg hh m9 n9 p1 p2 h5 (by rw [List.length_append]; omega)
    refine ⟨o, hq, ?_⟩
    unfold bfs at h3
    rw [hget] at h3
    dsimp only at h3
    rw [hpdd] at h3
    rcases hc with ⟨F', x10', x11', x12', e1, e2, e3, rfl⟩ | ⟨e1, P', rfl⟩
    · rw [e1] at h3
      dsimp only at h3
      obtain ⟨_, ⟨G2, g1, g2⟩, _⟩ := visit_ok h5 (zip_lt (rw_of hg) (rw_of hh) p1 p2) e1
      refine ⟨F', fr, G ++ G2, _, _, _, _, _, by rw [g1, List.append_assoc], fun x hx => ?_, by rw [← h3, show l + (r + 1) = l + r + 1 by omega], by omega, e2, rfl⟩
      rcases List.mem_append.mp hx with hx | hx
      · exact h2 x hx
      · exact g2 x hx
    · rw [e1] at h3
      dsimp only at h3
      rw [← h3]
      exact .inr ⟨P', rfl⟩
noncomputable def FStreet : DF := trimF (dDef 4 13 K42.den__law_street)
theorem resS_lt (r : Option Nat × List PD) : D.lt 0 (resS r) = true := by
  obtain ⟨o, F⟩ := r
  cases o with
  | some k => rfl
  | none =>
    have e : D.lt 0 (.tup ((srt (fstP F)).map pairD)) = true := Pz.Da.lt (k := 2) (.tup da_prsL)
    show D.lts 0 [_, _] = true
    simp only [D.lts, e]
    rfl
theorem fn_dataE {v : D} {vs : List D} {st : DS} {a k : Nat} (hl : vs.length = a) (h : QE (vs.map .d ++ List.replicate (k - a) .any) st fun o => ∃ P', o = .rt v P') (hv : D.lt 0 v = true) : OpF [] (trimF (dDef a k st)) vs v := fun S _ => by
  obtain ⟨o, ⟨P', rfl⟩, q⟩ := h _ _ _ (Sd.start (S := S) ArgsP.data (by rw [addrs_data]; exact .nil) (k - a))
  cases e : st (vs.map some ++ List.replicate (k - a) none) S with
  | rt d S' =>
    rw [e] at q
    obtain ⟨rfl, E', t⟩ := q
    obtain ⟨g, rfl⟩ := eq_pre (S := S) (S' := S') fun j d hj => t.fr j d (by rw [addrs_data]; exact hj)
    exact trimF_pure (dDef_rt hl rfl e) (D.lt_mono (Nat.zero_le _) hv)
  | _ => rw [e] at q; exact q.elim
theorem street_ok (hg : Rg s m g) (hh : Rg s n h) (m9 : m ≤ 50) (n9 : n ≤ 50) (ha : a < m) (hb : b < n) : OpF [] FStreet [gateD g, .int (a : Nat), gateD h, .int (b : Nat)] (resS (gone (rowG g) (rowG h) m n a b)) := by
  obtain ⟨RES, hR⟩ : ∃ RES, RES = gone (rowG g) (rowG h) m n a b := ⟨_, rfl⟩
  rw [← hR]
  have mn : m * n ≤ 2500 := Nat.mul_le_mul m9 n9
  refine fn_dataE rfl ?_ (resS_lt _)
  show QE [.d (gateD g), .d (.int (a : Nat)), .d (gateD h), .d (.int (b : Nat)), .any, .any, .any, .any, .any, .any, .any, .any, .any] K42.den__law_street _
  unfold K42.den__law_street
  have par0 : QS [.d (gateD g), .d (.int (a : Nat)), .d (gateD h), .d (.int (b : Nat)), .any, .any, .any, .any, .any, .any, .any, .any, .any] (dPar [4, 5, 6] (aCons (dDispT (dTup (aCons (dVar 1) (aCons (dVar 3) aNil))) (dC (.bl true))) (aCons (dLst (aCons (dTup (aCons (dVar 1) (aCons (dVar 3) aNil))) aNil)) (aCons (dC (.int 0)) aNil)))) (.nx (sP g h a b [((a, b), 0)] (.c none (pdC [((a, b), 0)])) (.d (.int ((0 : Nat) : Int))) .any .any .any .any .any .any)) :=
    QS.par (.consN (ExN.dispT (.tup2 (.var (i := 1) rfl) (.var (i := 3) rfl)) (.con _) (pk_keys (p := (a, b)))) (.consN (.lst (.one (.tup2 (.var (i := 1) rfl) (.var (i := 3) rfl))) (le_sl (show 1 ≤ 1000 by decide))) (.cons (.con _) .nil)))
  refine QE.seqS par0 (QE.seq ((QE.whileI (O := fun o => (∃ F x5 x6 x7 x8 x9 x10 x11 x12, RES = (none, F) ∧ Ok2 m n F ∧ o = .nx (sP g h a b F x5 x6 x7 x8 x9 x10 x11 x12)) ∨ ∃ P', o = .rt (resS RES) P')
    (fun j P => ∃ F f l d x7 x8 x9 x10 x11 x12, Ok2 m n F ∧ l ≤ F.length ∧ (∀ x ∈ F.drop l, x.2 = d) ∧ bfs (rowG g) (rowG h) f F l = RES ∧ m * n < f + l ∧ j = m * n + 1 - l ∧ P = sP g h a b F (.c none (pdC (F.drop l))) (.d (.int ((d : Nat) : Int))) x7 x8 x9 x10 x11 x12) (j := m * n + 1)
    ⟨[((a, b), 0)], m * n + 1, 0, 0, _, _, _, _, _, _, ok2_start ha hb, Nat.zero_le _, (fun x hx => by rw [List.mem_singleton.mp hx]), hR.symm, by omega, by omega, rfl⟩ (by unfold FU; omega) ?_).mono ?_))
  · rintro j P ⟨F, f, l, d, x7, x8, x9, x10, x11, x12, hF, hl, hd, hb', hf, rfl, rfl⟩
    have hfew := hF.few
    refine (ExB.test (Ex.binHH (Hd.var (i := 5) (c := pdC (F.drop l)) (o := none) rfl) ExN.nil.hd ⟨none, rfl⟩ trivial (t_neNilL da_prsL (by decide)))).eb ⟨fun e => ?_, fun e => ?_⟩
    · have e0 : F.length ≤ l := by
        have : (fstP (F.drop l)).length = 0 := by
          cases h0 : fstP (F.drop l) with
          | nil => rfl
          | cons y ys => rw [h0] at e; cases e
        rw [List.length_map, List.length_drop] at this
        omega
      rw [bfs_end e0] at hb'
      exact .inl ⟨F, _, _, _, _, _, _, _, _, hb'.symm, hF, rfl⟩
    · have e0 : l < F.length := by
        refine Decidable.byContradiction fun hn => ?_
        rw [List.drop_eq_nil_of_le (by omega)] at e
        cases e
      have par : QS (sP g h a b F (.c none (pdC (F.drop l))) (.d (.int ((d : Nat) : Int))) x7 x8 x9 x10 x11 x12) (dPar [7, 6] (aCons (dLst aNil) (aCons (dBin vAdd (dVar 6) (dC (.int 1))) aNil))) (.nx (sP g h a b F (.c none (pdC (F.drop l))) (.d (.int ((d + 1 : Nat) : Int))) (.c none (pdC [])) x8 x9 x10 x11 x12)) :=
        QS.par (.consN ExN.nil (.cons (.bin (.var (i := 6) rfl) (.con (.int ((1 : Nat) : Int))) t_addM) .nil))
      refine QE.seqS par (QE.name (i := 5) rfl fun w => ?_)
      obtain ⟨o, hc, hq⟩ := layer_walk (a := a) (b := b) (w := w) (x8 := x8) (x9 := x9) (x10 := x10) (x11 := x11) (x12 := x12) hg hh m9 n9 hF hl hd hb' hf
      refine QE.seq (hq.qe ?_)
      rcases hc with ⟨F', f', y8, y9, y10, y11, y12, q1, q2, q3, q4, q5, rfl⟩ | ⟨P', rfl⟩
      · exact .inl ⟨_, rfl, (QS.move (i := 7) (j := 5) rfl (by decide)).qe ⟨m * n + 1 - F.length, by omega, F', f', F.length, d + 1, _, _, _, _, _, _, q3, q4, q5, q1, q2, rfl, rfl⟩⟩
      · exact .inr ⟨rfl, .inr ⟨P', rfl⟩⟩
  · rintro o (⟨F, x5, x6, x7, x8, x9, x10, x11, x12, rfl, hF, rfl⟩ | ⟨P', rfl⟩)
    · refine .inl ⟨_, rfl, (QS.ret (.tup2 (.con _) (.tupleN (.callH (ExN.hd (.callH (Hd.var (i := 4) rfl) ⟨_, rfl⟩ (t_listT hF.nd))) trivial (t_sorted _))))).qe ⟨_, rfl⟩⟩
    · exact .inr ⟨rfl, P', rfl⟩
end
end Pk
set_option Elab.async false
set_option linter.all false
set_option maxHeartbeats 1000000
set_option maxRecDepth 100000
/-! Pk9: k42: the law's own numbers of the marks -/
namespace Pk
open PySem PySem.Spec L2 Dn Pn Qn TL Pw Pa
section
variable {P P1 P2 P' : Qn.PE} {i j n s m k a b : Nat} {o : Option Nat} {g h : Gate} {xs : List D} {c c1 c2 : Cell} {m0' : DE} {x3 x4 x5 x6 : PV}
theorem t_eqNilL {k : Nat} (h : ∀ x ∈ xs, Da k x) (hk : k ≤ 50) : ∀ S n n', S[n]? = some (.lst xs) → S[n']? = some (.lst []) → vEq (.ref n) (.ref n') S = .ok (.bl xs.isEmpty) S := fun S n n' e1 e2 => by
  obtain ⟨ps, b, hl, hp⟩ := pyWs_of (rf := pyN S 2) (k := k) (xs := xs) fun x hx => (h x hx).py
  have o := Ok.lst hp
  have o2 : Ok 1 (.list []) := Ok.lst (k := 0) fun p hp => by cases hp
  rw [vEq_of (toPy_lst e1 b) (toPy_lst e2 (show pyWs (pyN S 2) [] = some [] from rfl)) (o.shaped (by omega)) (o2.shaped (by decide))]
  congr 2
  cases xs with
  | nil =>
    have : ps = [] := List.length_eq_zero_iff.mp hl
    rw [this]
    rfl
  | cons x xs =>
    cases ps with
    | nil => simp at hl
    | cons p ps => rfl
/-- the first one among those that fit -/
theorem fIx_filter {p : Nat → Bool} : ∀ (l : List Nat) (k : Nat), (((l.zipIdx k).filter fun z => p z.1).map (·.2)).head? = (fIx p l).map fun j => k + j
  | [], k => rfl
  | x :: l, k => by
    rw [List.zipIdx_cons, List.filter_cons, fIx]
    by_cases h : p x = true
    · rw [if_pos h, if_pos h]
      rfl
    · rw [if_neg h, if_neg h, fIx_filter l (k + 1), Option.map_map]
      congr 1
      funext j
      show k + 1 + j = k + (j + 1)
      omega
def RG (g : Gate) (m : Nat) : Nat → Nat → Bool := fun a b => decide ((gone (rowG g) (rowG g) m m a b).1 = none)
def wordS (r : Option Nat × List PD) : Str := if r.1 = none then "alike" else "parted"
theorem resS_ix (r : Option Nat × List PD) : ∀ S, vIx (resS r) (.int ((0 : Nat) : Int)) S = .ok (.str (wordS r)) S := by
  obtain ⟨o, F⟩ := r
  cases o with
  | some k => exact t_ixT (i := 0) rfl
  | none => exact t_ixT (i := 0) rfl
theorem word_eq (r : Option Nat × List PD) : ∀ S, vEq (.str (wordS r)) (.str "alike") S = .ok (.bl (decide (r.1 = none))) S := fun S => by
  unfold wordS
  by_cases h : r.1 = none
  · rw [if_pos h, t_eqS2 (sok_of "alike") (sok_of "alike"), decide_eq_true h, decide_eq_true rfl]
  · rw [if_neg h, t_eqS2 (sok_of "parted") (sok_of "alike"), decide_eq_false h, decide_eq_false (by decide)]
noncomputable def FLedM : DF := dDef 1 7 (K42.den__law_led_marks FStreet)
def lmP (g : Gate) (q : List Nat × List Nat) (o2 : Option Nat) (x3 x4 : PV) : Qn.PE := [.d (gateD g), .c none (.lst (q.1.map iD)), .c o2 (.lst (q.2.map iD)), x3, x4, .any, .any]
theorem led_turn (hg : Rg s m g) (m9 : m ≤ 50) (hi : i < m) {q : List Nat × List Nat} (hq : q.2.length ≤ i) (hq1 : q.1.length = i) (hlt : ∀ f ∈ q.2, f < m) {o2 : Option Nat} :
    QE (lmP g q o2 (.d (.int (i : Nat))) x4) (dSeq (dAsg (dLc (iEnumD (aCons (dVar 2) aNil)) (gTp 2 (gsCons (gNm 5) (gsCons (gNm 6) gsNil))) (dTest (dBin vEq (dBin vIx (dCall FStreet (aCons (dVar 0) (aCons (dVar 3) (aCons (dVar 0) (aCons (dVar 6) aNil))))) (dC (.int 0))) (dC (.str "alike")))) (dVar 5) [5, 6]) (gNm 4)) (dSeq (dIf (dTest (dBin vEq (dVar 4) (dLst aNil))) (dSeq (dAsg (dLst (aCons (dCall bLen (aCons (dVar 2) aNil)) aNil)) (gNm 4)) (dDrop (dMeth "list" mAppend (dVar 2) (aCons (dVar 3) aNil)))) dNext) (dDrop (dMeth "list" mAppend (dVar 1) (aCons (dBin vIx (dVar 4) (dC (.int 0))) aNil))))) (fun o => ∃ o2 x4, o = .nx (lmP g (ledN q i (fIx (RG g m i) q.2)) o2 (.d (.int (i : Nat))) x4)) := by
  refine QE.name (i := 2) rfl fun w => ?_
  show QE (lmP g q (some w) (.d (.int (i : Nat))) x4) _ _
  have fl := ExN.lcF (P := lmP g q (some w) (.d (.int (i : Nat))) x4) (P1 := lmP g q (some w) (.d (.int (i : Nat))) x4) (it := iEnumD (aCons (dVar 2) aNil)) (g := gTp 2 (gsCons (gNm 5) (gsCons (gNm 6) gsNil))) (tt := dTest (dBin vEq (dBin vIx (dCall FStreet (aCons (dVar 0) (aCons (dVar 3) (aCons (dVar 0) (aCons (dVar 6) aNil))))) (dC (.int 0))) (dC (.str "alike")))) (te := dVar 5) (ws := [5, 6]) (vs := [5, 6]) (l := q.2.zipIdx) (h := fun z => .tup [iD z.2, iD z.1]) (W := WL 2 w (q.2.map iD)) (fun z => iD z.2) (fun z => RG g m i z.1) (by
      have h := It.enumOwn (P := lmP g q (some w) (.d (.int (i : Nat))) x4) (j := 2) rfl
      rw [enum_map] at h
      exact h) (by rw [List.length_zipIdx]; exact sl_ge _ (by omega)) rfl (fun _ h => h) fun z hz => ⟨_, Tg.tp2 5 6 _ _, rfl, .test (.bin (.bin (.callF (.cons (.var (i := 0) rfl) (.cons (.var (i := 3) rfl) (.two (.var (i := 0) rfl) (.var (i := 6) rfl)))) (street_ok hg hg m9 m9 hi (hlt z.1 (by
        obtain ⟨r, hr⟩ := List.getElem?_of_mem hz
        rw [List.getElem?_zipIdx] at hr
        obtain ⟨f, hf, e⟩ := Option.map_eq_some_iff.mp hr
        rw [← e]
        exact List.mem_of_getElem? hf)))) (.con (.int ((0 : Nat) : Int))) (resS_ix _)) (.con _) (word_eq _)), fun _ => .var (i := 5) rfl⟩
  obtain ⟨fs, hfs⟩ : ∃ fs : List Nat, fs = ((q.2.zipIdx).filter fun z => RG g m i z.1).map (·.2) := ⟨_, rfl⟩
  have efs : ((q.2.zipIdx).filter fun z => RG g m i z.1).map (fun z => iD z.2) = fs.map iD := by rw [hfs, List.map_map]; rfl
  rw [efs] at fl
  have hd := fIx_filter (p := RG g m i) q.2 0
  rw [← hfs] at hd
  refine QE.seqS (.asgN fl) ?_
  show QE (lmP g q (some w) (.d (.int (i : Nat))) (.c none (.lst (fs.map iD)))) _ _
  have t : ExB (lmP g q (some w) (.d (.int (i : Nat))) (.c none (.lst (fs.map iD)))) (dTest (dBin vEq (dVar 4) (dLst aNil))) (fs.map iD).isEmpty (lmP g q (some w) (.d (.int (i : Nat))) (.c none (.lst (fs.map iD)))) := .test (Ex.binHH (Hd.var (i := 4) (o := none) rfl) ExN.nil.hd ⟨none, rfl⟩ trivial (t_eqNilL (k := 0) da_iD (by decide)))
  cases e : fIx (RG g m i) q.2 with
  | some r =>
    rw [e] at hd
    obtain ⟨fs', rfl⟩ : ∃ fs', fs = (0 + r) :: fs' := by
      cases fs with
      | nil => cases hd
      | cons y ys => exact ⟨ys, by rw [show y = 0 + r from Option.some.inj hd]⟩
    rw [Nat.zero_add] at t ⊢
    have ap := QS.append (P := lmP g q (some w) (.d (.int (i : Nat))) (.c none (.lst ((r :: fs').map iD)))) (j := 1) (o := none) (xs := q.1.map iD) (ys := q.1.map iD) rfl (.binH (Hd.var (i := 4) rfl) (.con (.int ((0 : Nat) : Int))) ⟨_, rfl⟩ (t_ixL (i := 0) (x := iD r) rfl)) rfl (by rw [List.length_map]; exact lt_sl (by omega))
    have e2 : q.1.map iD ++ [iD r] = (q.1 ++ [r]).map iD := by rw [List.map_append]; rfl
    rw [e2] at ap
    exact (QS.seq (.ifF t .next) ap).qe ⟨some w, _, rfl⟩
  | none =>
    rw [e] at hd
    obtain rfl : fs = [] := by
      cases fs with
      | nil => rfl
      | cons y ys => cases hd
    have ln : Ex (lmP g q (some w) (.d (.int (i : Nat))) (.c none (.lst ([] : List D)))) (dCall bLen (aCons (dVar 2) aNil)) (iD q.2.length) (lmP g q (some w) (.d (.int (i : Nat))) (.c none (.lst ([] : List D)))) := by
      have z := Ex.lenH (P := lmP g q (some w) (.d (.int (i : Nat))) (.c none (.lst ([] : List D)))) (Hd.var (i := 2) rfl) ⟨_, rfl⟩
      rw [List.length_map] at z
      exact z
    have a1 : QS (lmP g q (some w) (.d (.int (i : Nat))) (.c none (.lst ([] : List D)))) (dAsg (dLst (aCons (dCall bLen (aCons (dVar 2) aNil)) aNil)) (gNm 4)) (.nx (lmP g q (some w) (.d (.int (i : Nat))) (.c none (.lst [iD q.2.length])))) := .asgN (.lst (.one ln) (le_sl (show 1 ≤ 1000 by decide)))
    have a2 := QS.append (P := lmP g q (some w) (.d (.int (i : Nat))) (.c none (.lst [iD q.2.length]))) (j := 2) (o := some w) (xs := q.2.map iD) (ys := q.2.map iD) rfl (.var (i := 3) rfl) rfl (by rw [List.length_map]; exact lt_sl (by omega))
    have e2 : q.2.map iD ++ [.int ((i : Nat) : Int)] = (q.2 ++ [i]).map iD := by rw [List.map_append]; rfl
    rw [e2] at a2
    have ap := QS.append (P := lmP g (q.1, q.2 ++ [i]) (some w) (.d (.int (i : Nat))) (.c none (.lst [iD q.2.length]))) (j := 1) (o := none) (xs := q.1.map iD) (ys := q.1.map iD) rfl (.binH (Hd.var (i := 4) rfl) (.con (.int ((0 : Nat) : Int))) ⟨_, rfl⟩ (t_ixL (i := 0) (x := iD q.2.length) rfl)) rfl (by rw [List.length_map]; exact lt_sl (by omega))
    have e3 : q.1.map iD ++ [iD q.2.length] = (q.1 ++ [q.2.length]).map iD := by rw [List.map_append]; rfl
    rw [e3] at ap
    exact (QS.seq (.ifT t (QS.seq a1 a2)) ap).qe ⟨some w, _, rfl⟩
theorem ledm_ok (hg : Rg s m g) (m0 : 0 < m) (m9 : m ≤ 50) (S : Store) : ∃ r1 r2 q, FLedM [gateD g] S = .ok (.tup [.ref r1, .ref r2]) (S ++ q) ∧ S.length ≤ r1 ∧ S.length ≤ r2 ∧ r1 ≠ r2 ∧ (S ++ q)[r1]? = some (.lst ((ledS (RG g m) m).1.map iD)) ∧ (S ++ q)[r2]? = some (.lst ((ledS (RG g m) m).2.map iD)) := by
  have ln : ∀ {P : Qn.PE}, P[0]? = some (.d (gateD g)) → Ex P (dCall bLen (aCons (dVar 0) aNil)) (.int (m : Nat)) P := fun {P} hP => by
    have e := Ex.len (P := P) (.var (i := 0) (v := .tup (g.map rowD)) hP)
    rw [List.length_map, hg.len] at e
    exact e
  have few : ∀ i, (ledS (RG g m) i).2.length ≤ i ∧ (ledS (RG g m) i).1.length = i := fun i => by
    induction i with
    | zero => exact ⟨Nat.le_refl _, rfl⟩
    | succ i ih =>
      show (ledN (ledS (RG g m) i) i (fIx (RG g m i) (ledS (RG g m) i).2)).2.length ≤ i + 1 ∧ (ledN (ledS (RG g m) i) i (fIx (RG g m i) (ledS (RG g m) i).2)).1.length = i + 1
      cases fIx (RG g m i) (ledS (RG g m) i).2 with
      | some r => exact ⟨by show (ledS (RG g m) i).2.length ≤ _; omega, by show (_ ++ [_]).length = _; rw [List.length_append, ih.2]; rfl⟩
      | none => exact ⟨by show (_ ++ [_]).length ≤ _; rw [List.length_append, List.length_singleton]; omega, by show (_ ++ [_]).length = _; rw [List.length_append, ih.2]; rfl⟩
  have body : QE (lmP g ([], []) none .any .any) (dFor (iRange1 (aCons (dCall bLen (aCons (dVar 0) aNil)) aNil)) (gNm 3) (dSeq (dAsg (dLc (iEnumD (aCons (dVar 2) aNil)) (gTp 2 (gsCons (gNm 5) (gsCons (gNm 6) gsNil))) (dTest (dBin vEq (dBin vIx (dCall FStreet (aCons (dVar 0) (aCons (dVar 3) (aCons (dVar 0) (aCons (dVar 6) aNil))))) (dC (.int 0))) (dC (.str "alike")))) (dVar 5) [5, 6]) (gNm 4)) (dSeq (dIf (dTest (dBin vEq (dVar 4) (dLst aNil))) (dSeq (dAsg (dLst (aCons (dCall bLen (aCons (dVar 2) aNil)) aNil)) (gNm 4)) (dDrop (dMeth "list" mAppend (dVar 2) (aCons (dVar 3) aNil)))) dNext) (dDrop (dMeth "list" mAppend (dVar 1) (aCons (dBin vIx (dVar 4) (dC (.int 0))) aNil)))))) (fun o => ∃ o2 x3 x4, o = .nx (lmP g (ledS (RG g m) m) o2 x3 x4)) := by
    refine QE.forI (xs := rngD 0 (m : Nat)) (P1 := lmP g ([], []) none .any .any) (W := WT) (fun i P => ∃ o2 x3 x4, P = lmP g (ledS (RG g m) i) o2 x3 x4) (It.range (ln rfl) (by omega)) ⟨none, _, _, rfl⟩ (fun _ _ _ => trivial) ?_ ?_
    · rintro P ⟨o2, x3, x4, rfl⟩
      rw [rng_len]
      exact ⟨o2, x3, x4, rfl⟩
    · rintro i x P hx ⟨o2, x3, x4, rfl⟩
      obtain ⟨hi, rfl⟩ := rng_get hx
      refine ⟨[3], lmP g (ledS (RG g m) i) o2 (.d (.int (i : Nat))) x4, Tg.nm 3 _, ?_⟩
      obtain ⟨f1, f2⟩ := few i
      refine (led_turn hg m9 hi f1 f2 (fun f hf => by have := ledS_lt i f hf; omega)).mono ?_
      rintro _ ⟨o2', x4', rfl⟩
      exact ⟨o2', _, x4', rfl⟩
  have par : QS [.d (gateD g), .any, .any, .any, .any, .any, .any] (dPar [1, 2] (aCons (dLst aNil) (aCons (dLst aNil) aNil))) (.nx (lmP g ([], []) none .any .any)) := QS.par (.consN ExN.nil (.consN ExN.nil .nil))
  have st := Sd.start (S := S) (xs := [gateD g]) (Ps := [.d (gateD g)]) ⟨rfl, trivial⟩ (by simp [Qn.addrs]) 6
  have q1 := par _ _ _ st
  cases e1 : dPar [1, 2] (aCons (dLst aNil) (aCons (dLst aNil) aNil)) ([gateD g].map some ++ List.replicate 6 none) S with
  | nx E1 S1 =>
    rw [e1] at q1
    obtain ⟨o, ⟨o2, x3, x4, rfl⟩, q2⟩ := body _ _ _ q1
    cases e2 : (dFor (iRange1 (aCons (dCall bLen (aCons (dVar 0) aNil)) aNil)) (gNm 3) (dSeq (dAsg (dLc (iEnumD (aCons (dVar 2) aNil)) (gTp 2 (gsCons (gNm 5) (gsCons (gNm 6) gsNil))) (dTest (dBin vEq (dBin vIx (dCall FStreet (aCons (dVar 0) (aCons (dVar 3) (aCons (dVar 0) (aCons (dVar 6) aNil))))) (dC (.int 0))) (dC (.str "alike")))) (dVar 5) [5, 6]) (gNm 4)) (dSeq (dIf (dTest (dBin vEq (dVar 4) (dLst aNil))) (dSeq (dAsg (dLst (aCons (dCall bLen (aCons (dVar 2) aNil)) aNil)) (gNm 4)) (dDrop (dMeth "list" mAppend (dVar 2) (aCons (dVar 3) aNil)))) dNext) (dDrop (dMeth "list" mAppend (dVar 1) (aCons (dBin vIx (dVar 4) (dC (.int 0))) aNil)))))) E1 S1 with
    | nx E2 S2 =>
      rw [e2] at q2
      obtain ⟨n1, a1, a2, a3, _⟩ := Sd.cell q2 (i := 1) rfl
      obtain ⟨n2, b1, b2, b3, _⟩ := Sd.cell q2 (i := 2) rfl
      have fr : ∀ j d, S[j]? = some d → S2[j]? = some d := fun j d hj => q2.fr j d (by simpa [fOf, Qn.addrs] using hj)
      obtain ⟨g', rfl⟩ := eq_pre fr
      have nn : n1 ≠ n2 := fun z => by
        subst z
        exact absurd (q2.sep 1 2 _ _ _ _ n1 rfl rfl a1 b1) (by decide)
      have big : ∀ n, fOf S (Qn.addrs [.d (gateD g)]) n = none → S.length ≤ n := fun n hn => by
        have hn : S[n]? = none := by simpa [fOf, Qn.addrs] using hn
        exact List.getElem?_eq_none_iff.mp hn
      refine ⟨n1, n2, g', ?_, big n1 a3, big n2 b3, nn, a2, b2⟩
      have fin : dRet (dTup (aCons (dVar 1) (aCons (dVar 2) aNil))) E2 (S ++ g') = .rt (.tup [.ref n1, .ref n2]) (S ++ g') := by
        refine retE ?_
        have v1 : dVar 1 E2 (S ++ g') = .ok (.ref n1) (S ++ g') := by unfold dVar; rw [a1]
        have v2 : dVar 2 E2 (S ++ g') = .ok (.ref n2) (S ++ g') := by unfold dVar; rw [b1]
        rw [e_tup, e_acons, v1, Dn.R.bind_ok, e_acons, v2, Dn.R.bind_ok, e_anil, Dn.R.bind_ok, Dn.R.bind_ok, Dn.R.bind_ok, mkTup2]
      refine dDef_rt (n := 1) (N := 7) rfl rfl ?_
      show K42.den__law_led_marks FStreet ([gateD g].map some ++ List.replicate 6 none) S = _
      unfold K42.den__law_led_marks
      rw [e_seq, e1]
      dsimp only
      rw [e_seq, e2]
      exact fin
    | _ => rw [e2] at q2; exact q2.elim
  | _ => rw [e1] at q1; exact q1.elim
end
end Pk
set_option Elab.async false
set_option linter.all false
set_option maxHeartbeats 1000000
set_option maxRecDepth 100000
/-! Pk10: k42: what is due, the law -/
namespace Pk
open PySem PySem.Spec L2 Dn Pn Qn TL Pw Pa
section
variable {P P1 P2 P' : Qn.PE} {i j n s m k a b : Nat} {o : Option Nat} {g h : Gate} {xs vs : List D} {c c1 c2 : Cell} {mb : DE} {da : DA} {F : DF} {x2 x3 x4 x5 x6 : PV} {q : List Nat × List Nat} {ns : List Int} {Rc : Cell → Qn.PE → Prop}
theorem QS.asg2 [KF] (h : ExA P da vs P1) (hF : ∀ S, ∃ r1 r2 q, F vs S = .ok (.tup [.ref r1, .ref r2]) (S ++ q) ∧ S.length ≤ r1 ∧ S.length ≤ r2 ∧ r1 ≠ r2 ∧ (S ++ q)[r1]? = some c1 ∧ (S ++ q)[r2]? = some c2) (hij : i ≠ j) :
    QS P (dAsg (dCall F da) (gTp 2 (gsCons (gNm i) (gsCons (gNm j) gsNil)))) (.nx ((P1.set j (.c none c2)).set i (.c none c1))) := fun f E S s => by
  obtain ⟨S1, e1, s1⟩ := h f E S s
  obtain ⟨r1, r2, q, e2, b1, b2, ne, g1, g2⟩ := hF S1
  have hm : dAsg (dCall F da) (gTp 2 (gsCons (gNm i) (gsCons (gNm j) gsNil))) E S = .nx ((E.set i (some (.ref r1))).set j (some (.ref r2))) (S1 ++ q) := by
    rw [e_asg, e_call, e1, Dn.R.bind_ok, e2, R.toS_ok]
    rfl
  rw [hm]
  obtain ⟨h1, t1⟩ := s1.newAt b1 g1
  have h2 := s1.fnew b2
  have h2' : f.add r1 c1 r2 = none := by rw [Fr.add_ne f (Ne.symm ne)]; exact h2
  have t2 : Sd ((f.add r1 c1).add r2 c2) P1 E (S1 ++ q) := by
    refine ⟨t1.len, fun k d e => ?_, fun i p e => ?_, t1.sep, fun k d e => ?_⟩
    · by_cases z : k = r2
      · subst z; rw [Fr.add_same] at e; cases e; exact g2
      · rw [Fr.add_ne _ z] at e; exact t1.fr k d e
    · have y := t1.at_ i p e
      cases p with
      | any => trivial
      | d v => exact y
      | c o c' =>
        obtain ⟨r, a, bb, d⟩ := y
        obtain ⟨r', a', bb', _⟩ := s1.cell e
        rw [a] at a'
        cases a'
        have hr := get_lt bb'
        exact ⟨r, a, bb, by rw [Fr.add_ne _ (by omega)]; exact d.1, d.2⟩
    · rw [Fr.add_ne _ (fun z => by rw [z] at e; rw [s1.kn _ _ e] at h2; cases h2)]
      exact t1.kn k d e
  have t3 := t2.take h2' t1.kn j
  have t4 := t3.take h1 s1.kn i
  have e : (E.set i (some (D.ref r1))).set j (some (D.ref r2)) = (E.set j (some (D.ref r2))).set i (some (D.ref r1)) := List.set_comm _ _ hij
  show Sd f _ ((E.set i (some (D.ref r1))).set j (some (D.ref r2))) _
  rw [e]
  exact t4
noncomputable def FDue4 : DF := trimF (dDef 1 6 (K42.den__law_due FLedM))
def duP (g : Gate) (q : List Nat × List Nat) (o2 : Option Nat) (x3 x4 : PV) : Qn.PE := [.d (gateD g), .c none (.lst (q.1.map iD)), .c o2 (.lst (q.2.map iD)), x3, x4, .any]
theorem due_ok (hg : Rg s m g) (s9 : s ≤ 20) (m0 : 0 < m) (m9 : m ≤ 50) (E : Eqv m (RG g m)) : OpF [] FDue4 [gateD g] (leastD g (ledS (RG g m) m)) := by
  obtain ⟨q, hq⟩ : ∃ q, q = ledS (RG g m) m := ⟨_, rfl⟩
  have L := led_ok E m (Nat.le_refl _)
  have hm := ledm_ok hg m0 m9
  rw [← hq] at L hm ⊢
  have hl := L.len
  have hfew := L.few
  refine fn_dataE rfl ?_ (Pz.Da.lt least_da)
  show QE [.d (gateD g), .any, .any, .any, .any, .any] (K42.den__law_due FLedM) _
  unfold K42.den__law_due
  refine QE.seqS (QS.asg2 (i := 1) (j := 2) (.one (.var (i := 0) rfl)) hm (by decide)) ?_
  show QE (duP g q none .any .any) _ _
  refine QE.seqS (.asgN ExN.nil) ?_
  show QE (duP g q none (.c none (.lst [])) .any) _ _
  refine QE.name (i := 2) rfl fun w => ?_
  show QE (duP g q (some w) (.c none (.lst [])) .any) _ _
  refine QE.seqN (QE.forI (xs := q.2.map iD) (P1 := duP g q (some w) (.c none (.lst [])) .any) (W := WL 2 w (q.2.map iD)) (fun i P => ∃ x4, P = duP g q (some w) (.c none (.lst ((q.2.take i).map fun f => rowD (thinR q.1 (rowG g f))))) x4) (It.own (j := 2) rfl) ⟨_, rfl⟩ (fun i P ⟨x4, e⟩ => by subst e; rfl) ?_ ?_)
  · rintro P ⟨x4, rfl⟩
    rw [List.length_map, List.take_length]
    refine ⟨_, rfl, (QS.ret (P := duP g q (some w) (.c none (.lst (q.2.map fun f => rowD (thinR q.1 (rowG g f))))) x4) (P' := duP g q (some w) (.c none (.lst (q.2.map fun f => rowD (thinR q.1 (rowG g f))))) x4) (.tup2 (P1 := duP g q (some w) (.c none (.lst (q.2.map fun f => rowD (thinR q.1 (rowG g f))))) x4) ?_ (.tupleH (Hd.var (i := 1) rfl) ⟨none, rfl⟩))).qe ⟨_, rfl⟩⟩
    have e : gateD (thin g q) = .tup (q.2.map fun f => rowD (thinR q.1 (rowG g f))) := by
      unfold gateD thin
      rw [List.map_map]
      rfl
    rw [e]
    exact .tupleH (Hd.var (i := 3) rfl) ⟨none, rfl⟩
  · rintro i x P hx ⟨x4, rfl⟩
    rw [List.getElem?_map] at hx
    obtain ⟨f, hf, rfl⟩ := Option.map_eq_some_iff.mp hx
    have hfm := L.lt f (List.mem_of_getElem? hf)
    obtain ⟨r1, r2⟩ := rowOf hg hfm
    refine ⟨[4], duP g q (some w) (.c none (.lst ((q.2.take i).map fun f => rowD (thinR q.1 (rowG g f))))) (.d (iD f)), Tg.nm 4 _, ?_⟩
    have z2 := ExN.lc (P := duP g q (some w) (.c none (.lst ((q.2.take i).map fun f => rowD (thinR q.1 (rowG g f))))) (.d (iD f))) (P1 := duP g q (some w) (.c none (.lst ((q.2.take i).map fun f => rowD (thinR q.1 (rowG g f))))) (.d (iD f))) (it := iVal (dBin vIx (dVar 0) (dVar 4))) (g := gNm 5) (te := dTup (aCons (dBin vIx (dVar 5) (dC (.int 0))) (aCons (dBin vIx (dVar 1) (dBin vIx (dVar 5) (dC (.int 1)))) aNil))) (ws := [5]) (vs := [5]) (l := rowG g f) (h := pairD) (W := WT) (fun p => pairD (p.1, q.1.getD p.2 0)) (It.tup (ixG (.var (i := 0) rfl) (.var (i := 4) rfl) hg hfm)) (by rw [r2]; exact sl_ge _ (by omega)) trivial (fun _ h => h) fun p hp => ⟨_, Tg.nm 5 _, .tup2 (.bin (.var (i := 5) rfl) (.con _) (t_pr1 (p := p))) (.binH (Hd.var (i := 1) rfl) (.bin (.var (i := 5) rfl) (.con _) (t_pr2 (p := p))) ⟨none, rfl⟩ (t_ixL (ledAt hl (hg.rng _ (List.mem_of_getElem? r1) p hp).2))), rfl⟩
    have e : rowD (thinR q.1 (rowG g f)) = .tup ((rowG g f).map fun p => pairD (p.1, q.1.getD p.2 0)) := by
      unfold rowD thinR
      rw [List.map_map]
      rfl
    have ap := QS.append (P := duP g q (some w) (.c none (.lst ((q.2.take i).map fun f => rowD (thinR q.1 (rowG g f))))) (.d (iD f))) (j := 3) (o := none) (xs := (q.2.take i).map fun f => rowD (thinR q.1 (rowG g f))) (ys := (q.2.take i).map fun f => rowD (thinR q.1 (rowG g f))) rfl (.tupleN z2) rfl (by rw [List.length_map, List.length_take]; exact lt_sl (by omega))
    rw [← e] at ap
    have e2 : (q.2.take i).map (fun f => rowD (thinR q.1 (rowG g f))) ++ [rowD (thinR q.1 (rowG g f))] = (q.2.take (i + 1)).map fun f => rowD (thinR q.1 (rowG g f)) := by
      rw [List.take_add_one, hf, List.map_append]
      rfl
    rw [e2] at ap
    exact ap.qe ⟨_, rfl⟩
theorem wt_rows {rs : Gate} (h : ∀ r ∈ rs, r.length = s) : wts (rs.map rowD) = rs.length * (1 + 3 * s) := by
  induction rs with
  | nil => simp [wts]
  | cons r rs ih =>
    rw [List.map_cons, wts, ih fun r' h' => h r' (List.mem_cons_of_mem _ h')]
    have e : wt (rowD r) = 1 + 3 * s := by
      unfold rowD
      rw [wt, Pz.wt_row, h r (List.mem_cons_self ..)]
    rw [e, List.length_cons, Nat.add_mul, Nat.one_mul]
    omega
theorem wt_ints : ∀ l : List Nat, wts (l.map iD) = l.length
  | [] => rfl
  | a :: l => by
    rw [List.map_cons, wts, wt_ints l, List.length_cons]
    show wt (.int _) + l.length = _
    simp only [wt]
    omega
/-- both numberings are the same -/
theorem led_same (hg : Rg s m g) {R : Nat → Nat → Bool} (K : Kinds g m R) : ledS R m = ledS (RG g m) m ∧ Eqv m (RG g m) := by
  have e : ∀ a b, a < m → b < m → R a b = RG g m a b := fun a b ha hb => by
    have h1 := K.bis a b ha hb
    have h2 := gone_iff (rw_of hg) (rw_of hg) ha hb
    unfold RG
    rw [Bool.eq_iff_iff, h1, decide_eq_true_iff, h2]
  refine ⟨ledS_congr e m (Nat.le_refl _), ⟨fun i hi => by rw [← e i i hi hi]; exact K.eqv.refl i hi, fun i j hi hj h => ?_, fun i j k hi hj hk h h' => ?_⟩⟩
  · rw [← e i j hi hj] at h
    rw [← e j i hj hi]
    exact K.eqv.symm i j hi hj h
  · rw [← e i j hi hj] at h
    rw [← e j k hj hk] at h'
    rw [← e i k hi hk]
    exact K.eqv.trans i j k hi hj hk h h'
theorem both42 (hg : Gt s m g) (hP : P[j]? = some (.d (gateD g))) : ExB P (dTNot (dTest (dCall FAlike4 (aCons (dCall FLeast (aCons (dVar j) aNil)) (aCons (dCall FDue4 (aCons (dVar j) aNil)) aNil))))) false P := by
  have m9 := hg.m9
  have s9 := hg.s9
  obtain ⟨R, K, hl⟩ := least_walk hg.rg hg.s9 hg.m0 (by omega)
  obtain ⟨e1, e2⟩ := led_same hg.rg K
  have hd := due_ok hg.rg hg.s9 hg.m0 (by omega) e2
  rw [e1] at hl
  have L := led_ok e2 m (Nat.le_refl _)
  have hfew := L.few
  have hw : wt (leastD g (ledS (RG g m) m)) ≤ 1000000 := by
    unfold leastD gateD
    have w1 := wt_rows (s := s) (rs := thin g (ledS (RG g m) m)) (fun r hr => by
      obtain ⟨f, hf, rfl⟩ := List.mem_map.mp hr
      unfold thinR
      rw [List.length_map, (rowOf hg.rg (L.lt f hf)).2])
    have w2 := wt_ints (ledS (RG g m) m).1
    rw [L.len] at w2
    have w3 : (thin g (ledS (RG g m) m)).length = (ledS (RG g m) m).2.length := by unfold thin; rw [List.length_map]
    rw [w3] at w1
    have w4 : (ledS (RG g m) m).2.length * (1 + 3 * s) ≤ 10 * 61 := Nat.mul_le_mul (by omega) (by omega)
    simp only [wt, wts]
    omega
  exact .not (b := true) (.test (.callF (.two (.callF (.one (.var hP)) hl) (.callF (.one (.var hP)) hd)) (alike4_ok least_da (by decide) hw)))
theorem EN.catV (hP : P[j]? = some (.c o (.lst xs))) (hb : EN P mb fun c P2 => ∃ ys, c = .lst ys ∧ P2[j]? = some (.c o (.lst xs)) ∧ xs.length + ys.length ≤ sizeLine ∧ Rc (.lst (xs ++ ys)) P2) : EN P (dBin vAdd (dVar j) mb) Rc := fun f E S t => by
  obtain ⟨n, e1, e2, _⟩ := t.cell hP
  have hv : dVar j E S = .ok (.ref n) S := by unfold dVar; rw [e1]
  obtain ⟨c, P2, n2, S2, ⟨ys, rfl, hp, hl, hr⟩, e3, h2, t2⟩ := hb f E S t
  obtain ⟨n', e1', a1, _⟩ := t2.cell hp
  rw [e1] at e1'
  cases e1'
  have a2 : S2[n2]? = some (.lst ys) := t2.addc
  obtain ⟨t3, hn⟩ := (t2.unadd h2 t.kn).alloc (.lst (xs ++ ys))
  refine ⟨_, P2, S2.length, _, hr, ?_, hn, t3⟩
  rw [e_Bin, hv, Dn.R.bind_ok, e3, Dn.R.bind_ok]
  unfold vAdd
  dsimp only
  unfold catLst
  rw [a1, a2]
  dsimp only
  rw [if_pos hl]
  rfl
noncomputable def dLaw42 : DS := K42.den_law FFeed FAny4 FTake FRenum FAlike4 FDue4 FLeast
def IsG (d : D) : Prop := ∃ s m g, d = gateD g ∧ Gt s m g
def l2P (ns : List Int) (L : List D) (x2 x3 x4 : PV) : Qn.PE := [.d (.scr ns), .c none (.lst L), x2, x3, x4]
theorem law42 (hl : ns.length ≤ 1000000) : ∃ st', dDef 1 5 dLaw42 [.scr ns] [] = .ok (.bl true) st' := by
  refine law_ok ?_
  unfold dLaw42 K42.den_law
  show QE [.d (.scr ns), .any, .any, .any, .any] _ _
  refine QE.seqS (.asgN ExN.nil) ?_
  show QE (l2P ns [] .any .any .any) _ _
  obtain ⟨N, hN, e⟩ := Pc.mm_ok (P := l2P ns [] .any .any .any) (ns := ns) (a := 1) (b := 3) (by decide) rfl
  refine QE.seqN (QE.forI (fun i P => ∃ L x2 x3 x4, L.length = 2 * i ∧ (∀ d ∈ L, IsG d) ∧ P = l2P ns L x2 x3 x4) (It.range e (by omega)) ⟨[], _, _, _, rfl, (fun d hd => nomatch hd), rfl⟩ (fun _ _ _ => trivial) ?_ ?_)
  · rintro P ⟨L, x2, x3, x4, hLl, hLg, rfl⟩
    rw [rng_len] at hLl
    refine ⟨_, rfl, ?_⟩
    have cl2 : (cutD L none (some 1)).length ≤ L.length := by
      unfold cutD
      rw [List.length_take, List.length_drop]
      omega
    refine QE.seqN (QE.forI (fun _ P => ∃ x4, P = l2P ns L x2 x3 x4) (It.new (ExN.binHH (Hd.var (i := 1) rfl) (ExN.hd (slOwn (j := 1) (lo := none) (hi := some 1) rfl .none (.some (.con _)))) ⟨none, rfl⟩ trivial (Pu.t_catL (sl_ge _ (by omega))))) ⟨_, rfl⟩ (fun _ _ _ => trivial) ?_ ?_)
    · rintro P ⟨x4, rfl⟩
      exact ⟨_, rfl, QE.ret ((Ex.con _).ee ⟨_, rfl⟩)⟩
    · rintro i x P hx ⟨x4, rfl⟩
      have hd : IsG x := by
        rcases List.mem_append.mp (List.mem_of_getElem? hx) with hx | hx
        · exact hLg x hx
        · exact hLg x (cut_mem hx)
      obtain ⟨s, m, g, rfl, hg⟩ := hd
      exact ⟨[4], _, Tg.nm 4 _, (QS.ifF (both42 (j := 4) hg rfl) .next).qe ⟨_, rfl⟩⟩
  rintro r x P hx ⟨L, x2, x3, x4, hLl, hLg, rfl⟩
  obtain ⟨hr, rfl⟩ := rng_get hx
  refine ⟨[2], _, Tg.nm 2 _, ?_⟩
  show QE (l2P ns L (.d (.int (r : Nat))) x3 x4) _ _
  refine QE.seqN (QE.asgN (feedE (i := 0) (j := 2) (k := r) rfl rfl (by omega) hl fun c hc => ⟨_, rfl, ?_⟩))
  show QE (l2P ns L (.d (.int (r : Nat))) (.c none c) x4) _ _
  refine QE.seqN (QE.asg (any4E (i := 3) rfl (onePlus (m := 6) (i := 3) rfl (.con _) hc (by decide) (by decide) fun q c1 hq hc1 => ⟨1 + q, c1, by omega, by omega, rfl, rfl, hc1, fun g m c2 hg hc2 => ⟨_, rfl, ?_⟩⟩)))
  show QE (l2P ns L (.d (.int (r : Nat))) (.c none c2) (.d (gateD g))) _ _
  refine QE.asgN (EN.catV (j := 1) rfl (EN.lst (EA.cons (R1 := fun v P1 => v = gateD g ∧ P1 = l2P ns L (.d (.int (r : Nat))) (.c none c2) (.d (gateD g))) ((Ex.var (i := 4) rfl).ee ⟨rfl, rfl⟩) ?_)))
  rintro _ _ ⟨rfl, rfl⟩
  refine EA.cons (R1 := fun v P1 => ∃ s m g1 c3, Gt s m g1 ∧ v = gateD g1 ∧ P1 = l2P ns L (.d (.int (r : Nat))) (.c none c3) (.d (gateD g))) (renumE (i := 3) (j := 4) rfl rfl hg hc2 fun g1 c3 hg1 hc3 => ⟨_, _, g1, c3, hg1, rfl, rfl⟩) ?_
  rintro _ _ ⟨s1, m1, g1, c3, hg1, rfl, rfl⟩
  refine EA.nil ⟨le_sl (show 2 ≤ 1000 by decide), [gateD g, gateD g1], rfl, rfl, sl_ge _ (by show L.length + 2 ≤ _; omega), L ++ [gateD g, gateD g1], _, _, _, by rw [List.length_append, hLl]; show 2 * r + 2 = _; omega, fun d hd => ?_, rfl⟩
  rcases List.mem_append.mp hd with hd | hd
  · exact hLg d hd
  · simp only [List.mem_cons, List.not_mem_nil, or_false] at hd
    rcases hd with rfl | rfl
    · exact ⟨_, _, _, rfl, hg⟩
    · exact ⟨_, _, _, rfl, hg1⟩
end
end Pk
set_option Elab.async false
set_option linter.all false
set_option maxRecDepth 100000
set_option maxHeartbeats 4000000
/-! printed by gen.py: the denotations of the defs of the row PySem.Challenge.rw_keptgates_k42_least_gates, the ties to them -/
namespace K42
open PySem PySem.Spec PyProof.Rows L2 Dn
def top (i : Nat) : Stmt := PySem.Challenge.pw_keptgates_k42_least_gates.main.body.getD i (.Pass ⟨0, 0, 0, 0⟩)
/-- the names that the text leaves to the built-ins -/
structure Fr (mg : Str → Option Value) : Prop where
  n_abs : mg "abs" = none
  n_bool : mg "bool" = none
  n_enumerate : mg "enumerate" = none
  n_int : mg "int" = none
  n_isinstance : mg "isinstance" = none
  n_len : mg "len" = none
  n_list : mg "list" = none
  n_max : mg "max" = none
  n_min : mg "min" = none
  n_range : mg "range" = none
  n_sorted : mg "sorted" = none
  n_str : mg "str" = none
  n_tuple : mg "tuple" = none
  n_zip : mg "zip" = none
/-! ### numbered: 0 things, 1 numbers, 2 found, 3 thing -/
def N_numbered : List Str := ["things", "numbers", "found", "thing"]
theorem sc_numbered : FnScope N_numbered ["things"] (defScope (top 1)) := ⟨rfl, rfl, rfl, by decide +kernel, rfl, by decide +kernel, by decide +kernel⟩
theorem tie_numbered {P : Program} {w : World} {K : PySem.W.Frag} {mg : Str → Option Value} {base : Heap} {cls : Nat → Value} {k : Nat} (B : Fr mg) (g : Ge K mg "numbered" (top 1)) :
    Has P w K mg base cls (k + 1) "numbered" ["things"] (dDef 1 4 (den_numbered)) := by
  have hN : N_numbered.Nodup := sc_numbered.nd
  refine Has.of (ps := ["things"]) g sc_numbered (fun _ _ _ _ _ _ us hl => match us, hl with | [_], _ => rfl) (fun cdv A outer s H E hr => ?_)
  exact (r_seq (r_set (i := 1) hN rfl (.inl rfl) r_dnewN) (r_seq (r_set (i := 2) hN rfl (.inl rfl) (r_lst r_anil)) (r_seq (r_for (passes_of rfl) rfl (r_iter (r_var 0 (pv 0))) (t_name (pg_name hN rfl (.inl rfl) (.inl rfl))) (r_seq (r_if (r_tcmp (op_notInN (hub hr)) (f_inN true) (r_var 3 (pv 3)) (r_var 1 (pv 1)) (by rfl)) (r_last (r_asg (r_callB call_lenN f_lenN rfl B.n_len (by decide +kernel) (r_acons (r_var 1 (pv 1)) r_anil)) (t_subN (W := W0) (hub hr) (r_var 1 (pv 1)) (r_var 3 (pv 3))))) r_nil) (r_last (r_expr (r_bm f_append PySem.F.plainAttrs_list PySem.F.slot_list_append PySem.F.type_list_append mt_append (r_var 2 (pv 2)) (r_acons (r_ix (ix_dictN (hub hr)) f_ixN (r_var 1 (pv 1)) (r_var 3 (pv 3)) (fun _ _ => rfl)) r_anil)))))) (r_last (r_ret (r_var 2 (pv 2)))))))
/-! ### parted_marks: 0 gate, 1 led, 2 many, 3 rows, 4 row, 5 side, 6 mark -/
def N_parted_marks : List Str := ["gate", "led", "many", "rows", "row", "side", "mark"]
theorem sc_parted_marks : FnScope N_parted_marks ["gate"] (defScope (top 2)) := ⟨rfl, rfl, rfl, by decide +kernel, rfl, by decide +kernel, by decide +kernel⟩
def bs_parted_marks_0 : Scope := ({ kind := PySem.ScopeKind.function, names := [(PySem.Str.ofString ".0", PySem.NameKind.local), (PySem.Str.ofString "row", PySem.NameKind.local), (PySem.Str.ofString "tuple", PySem.NameKind.globalImplicit)], isGenerator := false, isCoroutine := false, more := [] } : PySem.Scope)
def bs_parted_marks_0r : Scope := ({ kind := PySem.ScopeKind.function, names := [(PySem.Str.ofString ".0", PySem.NameKind.local), (PySem.Str.ofString "row", PySem.NameKind.local), (PySem.Str.ofString "tuple", PySem.NameKind.globalImplicit)], isGenerator := false, isCoroutine := false, more := [] } : PySem.Scope)
theorem blk_parted_marks_0 : BlkOk N_parted_marks (defScope (top 2)) bs_parted_marks_0 [(PySem.Str.ofString "row", 4)] := ⟨rfl, by decide +kernel, by decide +kernel, by decide +kernel, by decide +kernel⟩
def bs_parted_marks_1 : Scope := ({ kind := PySem.ScopeKind.function, names := [(PySem.Str.ofString ".0", PySem.NameKind.local), (PySem.Str.ofString "side", PySem.NameKind.local), (PySem.Str.ofString "mark", PySem.NameKind.local)], isGenerator := false, isCoroutine := false, more := [] } : PySem.Scope)
theorem blk_parted_marks_1 : BlkOk N_parted_marks bs_parted_marks_0r bs_parted_marks_1 [(PySem.Str.ofString "side", 5), (PySem.Str.ofString "mark", 6)] := ⟨rfl, by decide +kernel, by decide +kernel, by decide +kernel, by decide +kernel⟩
def bs_parted_marks_2 : Scope := ({ kind := PySem.ScopeKind.function, names := [(PySem.Str.ofString ".0", PySem.NameKind.local), (PySem.Str.ofString "row", PySem.NameKind.local), (PySem.Str.ofString "tuple", PySem.NameKind.globalImplicit), (PySem.Str.ofString "led", PySem.NameKind.free)], isGenerator := false, isCoroutine := false, more := [] } : PySem.Scope)
def bs_parted_marks_2r : Scope := ({ kind := PySem.ScopeKind.function, names := [(PySem.Str.ofString ".0", PySem.NameKind.local), (PySem.Str.ofString "row", PySem.NameKind.local), (PySem.Str.ofString "tuple", PySem.NameKind.globalImplicit), (PySem.Str.ofString "led", PySem.NameKind.cell)], isGenerator := false, isCoroutine := false, more := [] } : PySem.Scope)
theorem blk_parted_marks_2 : BlkOk N_parted_marks (defScope (top 2)) bs_parted_marks_2 [(PySem.Str.ofString "row", 4)] := ⟨rfl, by decide +kernel, by decide +kernel, by decide +kernel, by decide +kernel⟩
def bs_parted_marks_3 : Scope := ({ kind := PySem.ScopeKind.function, names := [(PySem.Str.ofString ".0", PySem.NameKind.local), (PySem.Str.ofString "side", PySem.NameKind.local), (PySem.Str.ofString "mark", PySem.NameKind.local), (PySem.Str.ofString "led", PySem.NameKind.free)], isGenerator := false, isCoroutine := false, more := [] } : PySem.Scope)
theorem blk_parted_marks_3 : BlkOk N_parted_marks bs_parted_marks_2r bs_parted_marks_3 [(PySem.Str.ofString "side", 5), (PySem.Str.ofString "mark", 6)] := ⟨rfl, by decide +kernel, by decide +kernel, by decide +kernel, by decide +kernel⟩
def bs_parted_marks_4 : Scope := ({ kind := PySem.ScopeKind.function, names := [(PySem.Str.ofString ".0", PySem.NameKind.local), (PySem.Str.ofString "mark", PySem.NameKind.local), (PySem.Str.ofString "row", PySem.NameKind.local), (PySem.Str.ofString "led", PySem.NameKind.free)], isGenerator := false, isCoroutine := false, more := [] } : PySem.Scope)
theorem blk_parted_marks_4 : BlkOk N_parted_marks (defScope (top 2)) bs_parted_marks_4 [(PySem.Str.ofString "mark", 6), (PySem.Str.ofString "row", 4)] := ⟨rfl, by decide +kernel, by decide +kernel, by decide +kernel, by decide +kernel⟩
theorem tie_parted_marks {P : Program} {w : World} {K : PySem.W.Frag} {mg : Str → Option Value} {base : Heap} {cls : Nat → Value} {k : Nat} {m_numbered : DF} (B : Fr mg) (g : Ge K mg "parted_marks" (top 2)) (h_numbered : Has P w K mg base cls k "numbered" ["things"] m_numbered) :
    Has P w K mg base cls (k + 1) "parted_marks" ["gate"] (dDef 1 7 (den_parted_marks m_numbered)) := by
  have hN : N_parted_marks.Nodup := sc_parted_marks.nd
  refine Has.of (ps := ["gate"]) g sc_parted_marks (fun _ _ _ _ _ _ us hl => match us, hl with | [_], _ => rfl) (fun cdv A outer s H E hr => ?_)
  exact (r_seq (r_set (i := 1) hN rfl (.inr rfl) (r_callH h_numbered hr rfl (takes_of rfl rfl rfl rfl) (r_acons (r_lcV blk_parted_marks_0 rfl hN (r_iter (r_var 0 (pv 0))) (fun _ _ _ _ _ => (t_name (pg_name hN rfl (.inl rfl) (.inr rfl)))) (fun _ _ _ _ _ => r_pts0) (fun _ _ _ _ _ => (r_callTy call_tuple_of f_tuple rfl B.n_tuple (by decide +kernel) (r_acons (r_lcV blk_parted_marks_1 rfl hN (r_iter (r_var 4 (pv 4))) (fun _ _ _ _ _ => (t_tup rfl (t_cons (t_name (pg_name hN rfl (.inl rfl) (.inr rfl))) (t_cons (t_name (pg_name hN rfl (.inl rfl) (.inr rfl))) t_nil)))) (fun _ _ _ _ _ => r_pts0) (fun _ _ _ _ _ => (r_var 5 (pv 5)))) r_anil)))) r_anil))) (r_seq (r_set (i := 2) hN rfl (.inl rfl) r_int) (r_seq (r_while (passes_of rfl) (r_tcmp op_lt (f_cmp _) (r_var 2 (pv 2)) (r_op o_add f_add (r_callB (cr_max rfl) f_maxL rfl B.n_max (by decide +kernel) (r_acons (r_var 1 (pv 1)) r_anil)) r_int) (by rfl)) (r_seq (r_set (i := 2) hN rfl (.inl rfl) (r_op o_add f_add (r_callB (cr_max rfl) f_maxL rfl B.n_max (by decide +kernel) (r_acons (r_var 1 (pv 1)) r_anil)) r_int)) (r_seq (r_setLcV (i := 3) blk_parted_marks_2 rfl hN rfl rfl rfl (r_iter (r_var 0 (pv 0))) (fun _ _ _ _ _ => (t_name (pg_name hN rfl (.inl rfl) (.inr rfl)))) (fun _ _ _ _ _ => r_pts0) (fun _ _ _ _ _ => (r_callTy call_tuple_of f_tuple rfl B.n_tuple (by decide +kernel) (r_acons (r_lcV blk_parted_marks_3 rfl hN (r_iter (r_var 4 (pv 4))) (fun _ _ _ _ _ => (t_tup rfl (t_cons (t_name (pg_name hN rfl (.inl rfl) (.inr rfl))) (t_cons (t_name (pg_name hN rfl (.inl rfl) (.inr rfl))) t_nil)))) (fun _ _ _ _ _ => r_pts0) (fun _ _ _ _ _ => (r_ix (o_ix (hu1 hr)) f_ix (r_var 1 (pv 1)) (r_var 6 (pv 6)) (fun _ _ => rfl)))) r_anil)))) (r_last (r_set (i := 1) hN rfl (.inr rfl) (r_callH h_numbered hr rfl (takes_of rfl rfl rfl rfl) (r_acons (r_lcV blk_parted_marks_4 rfl hN (r_enum rfl B.n_enumerate (r_acons (r_var 3 (pv 3)) r_anil)) (fun _ _ _ _ _ => (t_tup rfl (t_cons (t_name (pg_name hN rfl (.inl rfl) (.inr rfl))) (t_cons (t_name (pg_name hN rfl (.inl rfl) (.inr rfl))) t_nil)))) (fun _ _ _ _ _ => r_pts0) (fun _ _ _ _ _ => (r_tup (r_acons (r_ix (o_ix (hu1 hr)) f_ix (r_var 1 (pv 1)) (r_var 6 (pv 6)) (fun _ _ => rfl)) (r_acons (r_var 4 (pv 4)) r_anil))))) r_anil))))))) (r_last (r_ret (r_var 1 (pv 1)))))))
/-! ### least_gate: 0 gate, 1 led, 2 rows, 3 k, 4 row, 5 side, 6 mark -/
def N_least_gate : List Str := ["gate", "led", "rows", "k", "row", "side", "mark"]
theorem sc_least_gate : FnScope N_least_gate ["gate"] (defScope (top 3)) := ⟨rfl, rfl, rfl, by decide +kernel, rfl, by decide +kernel, by decide +kernel⟩
def bs_least_gate_0 : Scope := ({ kind := PySem.ScopeKind.function, names := [(PySem.Str.ofString ".0", PySem.NameKind.local), (PySem.Str.ofString "k", PySem.NameKind.local), (PySem.Str.ofString "gate", PySem.NameKind.free), (PySem.Str.ofString "led", PySem.NameKind.free)], isGenerator := false, isCoroutine := false, more := [] } : PySem.Scope)
theorem blk_least_gate_0 : BlkOk N_least_gate (defScope (top 3)) bs_least_gate_0 [(PySem.Str.ofString "k", 3)] := ⟨rfl, by decide +kernel, by decide +kernel, by decide +kernel, by decide +kernel⟩
def bs_least_gate_1 : Scope := ({ kind := PySem.ScopeKind.function, names := [(PySem.Str.ofString ".0", PySem.NameKind.local), (PySem.Str.ofString "row", PySem.NameKind.local), (PySem.Str.ofString "tuple", PySem.NameKind.globalImplicit), (PySem.Str.ofString "led", PySem.NameKind.free)], isGenerator := false, isCoroutine := false, more := [] } : PySem.Scope)
def bs_least_gate_1r : Scope := ({ kind := PySem.ScopeKind.function, names := [(PySem.Str.ofString ".0", PySem.NameKind.local), (PySem.Str.ofString "row", PySem.NameKind.local), (PySem.Str.ofString "tuple", PySem.NameKind.globalImplicit), (PySem.Str.ofString "led", PySem.NameKind.cell)], isGenerator := false, isCoroutine := false, more := [] } : PySem.Scope)
theorem blk_least_gate_1 : BlkOk N_least_gate (defScope (top 3)) bs_least_gate_1 [(PySem.Str.ofString "row", 4)] := ⟨rfl, by decide +kernel, by decide +kernel, by decide +kernel, by decide +kernel⟩
def bs_least_gate_2 : Scope := ({ kind := PySem.ScopeKind.function, names := [(PySem.Str.ofString ".0", PySem.NameKind.local), (PySem.Str.ofString "side", PySem.NameKind.local), (PySem.Str.ofString "mark", PySem.NameKind.local), (PySem.Str.ofString "led", PySem.NameKind.free)], isGenerator := false, isCoroutine := false, more := [] } : PySem.Scope)
theorem blk_least_gate_2 : BlkOk N_least_gate bs_least_gate_1r bs_least_gate_2 [(PySem.Str.ofString "side", 5), (PySem.Str.ofString "mark", 6)] := ⟨rfl, by decide +kernel, by decide +kernel, by decide +kernel, by decide +kernel⟩
theorem tie_least_gate {P : Program} {w : World} {K : PySem.W.Frag} {mg : Str → Option Value} {base : Heap} {cls : Nat → Value} {k : Nat} {m_parted_marks : DF} (B : Fr mg) (g : Ge K mg "least_gate" (top 3)) (h_parted_marks : Has P w K mg base cls k "parted_marks" ["gate"] m_parted_marks) :
    Has P w K mg base cls (k + 1) "least_gate" ["gate"] (dDef 1 7 (den_least_gate m_parted_marks)) := by
  have hN : N_least_gate.Nodup := sc_least_gate.nd
  refine Has.of (ps := ["gate"]) g sc_least_gate (fun _ _ _ _ _ _ us hl => match us, hl with | [_], _ => rfl) (fun cdv A outer s H E hr => ?_)
  exact (r_seq (r_set (i := 1) hN rfl (.inr rfl) (r_callH h_parted_marks hr rfl (takes_of rfl rfl rfl rfl) (r_acons (r_var 0 (pv 0)) r_anil))) (r_seq (r_setLcV (i := 2) blk_least_gate_0 rfl hN rfl rfl rfl (r_range1 rfl B.n_range (r_acons (r_op o_add f_add (r_callB (cr_max rfl) f_maxL rfl B.n_max (by decide +kernel) (r_acons (r_var 1 (pv 1)) r_anil)) r_int) r_anil)) (fun _ _ _ _ _ => (t_name (pg_name hN rfl (.inl rfl) (.inr rfl)))) (fun _ _ _ _ _ => r_pts0) (fun _ _ _ _ _ => (r_ix (o_ix (hu1 hr)) f_ix (r_var 0 (pv 0)) (r_bm f_index PySem.F.plainAttrs_list PySem.F.slot_list_index PySem.F.type_list_index (mt_indexD (hub hr)) (r_var 1 (pv 1)) (r_acons (r_var 3 (pv 3)) r_anil)) (fun _ _ => rfl)))) (r_last (r_ret (r_tup (r_acons (r_callTy call_tuple_of f_tuple rfl B.n_tuple (by decide +kernel) (r_acons (r_lcV blk_least_gate_1 rfl hN (r_iter (r_var 2 (pv 2))) (fun _ _ _ _ _ => (t_name (pg_name hN rfl (.inl rfl) (.inr rfl)))) (fun _ _ _ _ _ => r_pts0) (fun _ _ _ _ _ => (r_callTy call_tuple_of f_tuple rfl B.n_tuple (by decide +kernel) (r_acons (r_lcV blk_least_gate_2 rfl hN (r_iter (r_var 4 (pv 4))) (fun _ _ _ _ _ => (t_tup rfl (t_cons (t_name (pg_name hN rfl (.inl rfl) (.inr rfl))) (t_cons (t_name (pg_name hN rfl (.inl rfl) (.inr rfl))) t_nil)))) (fun _ _ _ _ _ => r_pts0) (fun _ _ _ _ _ => (r_tup (r_acons (r_var 5 (pv 5)) (r_acons (r_ix (o_ix (hu1 hr)) f_ix (r_var 1 (pv 1)) (r_var 6 (pv 6)) (fun _ _ => rfl)) r_anil))))) r_anil)))) r_anil)) (r_acons (r_callTy call_tuple_of f_tuple rfl B.n_tuple (by decide +kernel) (r_acons (r_var 1 (pv 1)) r_anil)) r_anil)))))))
/-! ### _law_feed: 0 _law_script, 1 _law_k, 2 _law_cell, 3 _law_seed -/
def N__law_feed : List Str := ["_law_script", "_law_k", "_law_cell", "_law_seed"]
theorem sc__law_feed : FnScope N__law_feed ["_law_script", "_law_k"] (defScope (top 5)) := ⟨rfl, rfl, rfl, by decide +kernel, rfl, by decide +kernel, by decide +kernel⟩
theorem tie__law_feed {P : Program} {w : World} {K : PySem.W.Frag} {mg : Str → Option Value} {base : Heap} {cls : Nat → Value} {k : Nat} (B : Fr mg) (g : Ge K mg "_law_feed" (top 5)) :
    Has P w K mg base cls (k + 1) "_law_feed" ["_law_script", "_law_k"] (dDef 2 4 (den__law_feed)) := by
  have hN : N__law_feed.Nodup := sc__law_feed.nd
  refine Has.of (ps := ["_law_script", "_law_k"]) g sc__law_feed (fun _ _ _ _ _ _ us hl => match us, hl with | [_, _], _ => rfl) (fun cdv A outer s H E hr => ?_)
  exact (r_seq (r_set (i := 2) hN rfl (.inl rfl) (r_op o_add f_add (r_op o_mul f_mul r_int (r_var 1 (pv 1))) r_int)) (r_seq (r_if (r_tcmp op_lt (f_cmp _) (r_var 1 (pv 1)) (r_callB c_len f_len rfl B.n_len (by decide +kernel) (r_acons (r_var 0 (pv 0)) r_anil)) (by rfl)) (r_last (r_set (i := 2) hN rfl (.inl rfl) (r_callB call_abs f_abs rfl B.n_abs (by decide +kernel) (r_acons (r_ix (o_ix (hu1 hr)) f_ix (r_var 0 (pv 0)) (r_var 1 (pv 1)) (fun _ _ => rfl)) r_anil)))) (r_last (r_if (r_tcmp op_gt (f_cmp _) (r_callB c_len f_len rfl B.n_len (by decide +kernel) (r_acons (r_var 0 (pv 0)) r_anil)) r_int (by rfl)) (r_last (r_set (i := 2) hN rfl (.inl rfl) (r_op o_add f_add (r_var 2 (pv 2)) (r_op o_mul f_mul (r_op op_mod f_mod (r_ix (o_ix (hu1 hr)) f_ix (r_var 0 (pv 0)) (r_op op_mod f_mod (r_var 1 (pv 1)) (r_callB c_len f_len rfl B.n_len (by decide +kernel) (r_acons (r_var 0 (pv 0)) r_anil))) (fun _ _ => rfl)) r_int) r_int)))) r_nil))) (r_seq (r_set (i := 3) hN rfl (.inl rfl) (r_op o_add f_add (r_op op_mod f_mod (r_op o_add f_add (r_op o_add f_add (r_op o_mul f_mul (r_op op_mod f_mod (r_var 2 (pv 2)) r_int) r_int) (r_op o_mul f_mul r_int (r_var 1 (pv 1)))) r_int) r_int) r_int)) (r_last (r_ret (r_lst (r_acons (r_ix (o_ix (hu1 hr)) f_ix (r_lst (r_acons r_int (r_acons (r_var 2 (pv 2)) r_anil))) (r_callTy call_int1 f_int rfl B.n_int (by decide +kernel) (r_acons (r_cmp op_ge (f_cmp _) (r_var 2 (pv 2)) (r_op op_pow f_pow r_int r_int) (by rfl)) r_anil)) (fun _ _ => rfl)) (r_acons (r_var 3 (pv 3)) (r_acons r_int r_anil)))))))))
/-! ### _law_draw: 0 _law_feed_here, 1 _law_many, 2 _law_digit, 3 _law_one -/
def N__law_draw : List Str := ["_law_feed_here", "_law_many", "_law_digit", "_law_one"]
theorem sc__law_draw : FnScope N__law_draw ["_law_feed_here", "_law_many"] (defScope (top 6)) := ⟨rfl, rfl, rfl, by decide +kernel, rfl, by decide +kernel, by decide +kernel⟩
theorem tie__law_draw {P : Program} {w : World} {K : PySem.W.Frag} {mg : Str → Option Value} {base : Heap} {cls : Nat → Value} {k : Nat} (B : Fr mg) (g : Ge K mg "_law_draw" (top 6)) :
    Has P w K mg base cls (k + 1) "_law_draw" ["_law_feed_here", "_law_many"] (dDef 2 4 (den__law_draw)) := by
  have hN : N__law_draw.Nodup := sc__law_draw.nd
  refine Has.of (ps := ["_law_feed_here", "_law_many"]) g sc__law_draw (fun _ _ _ _ _ _ us hl => match us, hl with | [_, _], _ => rfl) (fun cdv A outer s H E hr => ?_)
  exact (r_seq (r_if (r_tcmp op_gt (f_cmp _) (r_ix (o_ix (hu1 hr)) f_ix (r_var 0 (pv 0)) r_int (fun _ _ => rfl)) r_int (by rfl)) (r_seq (r_set (i := 2) hN rfl (.inl rfl) (r_op op_mod f_mod (r_ix (o_ix (hu1 hr)) f_ix (r_var 0 (pv 0)) r_int (fun _ _ => rfl)) (r_var 1 (pv 1)))) (r_seq (r_asg (r_op op_fdiv f_div (r_ix (o_ix (hu1 hr)) f_ix (r_var 0 (pv 0)) r_int (fun _ _ => rfl)) (r_var 1 (pv 1))) (t_sub (W := W0) (hu1 hr) (r_var 0 (pv 0)) r_int)) (r_last (r_ret (r_var 2 (pv 2)))))) r_nil) (r_seq (r_asg (r_op o_add f_add (r_ix (o_ix (hu1 hr)) f_ix (r_var 0 (pv 0)) r_int (fun _ _ => rfl)) r_int) (t_sub (W := W0) (hu1 hr) (r_var 0 (pv 0)) r_int)) (r_seq (r_set (i := 3) hN rfl (.inl rfl) (r_op op_mod f_mod (r_op o_mul f_mul (r_op o_add f_add (r_ix (o_ix (hu1 hr)) f_ix (r_var 0 (pv 0)) r_int (fun _ _ => rfl)) (r_op o_mul f_mul r_int (r_ix (o_ix (hu1 hr)) f_ix (r_var 0 (pv 0)) r_int (fun _ _ => rfl)))) r_int) r_int)) (r_seq (r_asg (r_op o_add f_add (r_op op_mod f_mod (r_op o_add f_add (r_op o_mul f_mul (r_var 3 (pv 3)) r_int) r_int) r_int) r_int) (t_sub (W := W0) (hu1 hr) (r_var 0 (pv 0)) r_int)) (r_last (r_ret (r_op op_mod f_mod (r_op op_fdiv f_div (r_op o_add f_add (r_op o_mul f_mul (r_var 3 (pv 3)) r_int) (r_ix (o_ix (hu1 hr)) f_ix (r_var 0 (pv 0)) r_int (fun _ _ => rfl))) r_int) (r_var 1 (pv 1)))))))))
/-! ### _law_mixed: 0 _law_feed_here, 1 _law_some, 2 _law_left, 3 _law_found -/
def N__law_mixed : List Str := ["_law_feed_here", "_law_some", "_law_left", "_law_found"]
theorem sc__law_mixed : FnScope N__law_mixed ["_law_feed_here", "_law_some"] (defScope (top 7)) := ⟨rfl, rfl, rfl, by decide +kernel, rfl, by decide +kernel, by decide +kernel⟩
theorem tie__law_mixed {P : Program} {w : World} {K : PySem.W.Frag} {mg : Str → Option Value} {base : Heap} {cls : Nat → Value} {k : Nat} {m__law_draw : DF} (B : Fr mg) (g : Ge K mg "_law_mixed" (top 7)) (h__law_draw : Has P w K mg base cls k "_law_draw" ["_law_feed_here", "_law_many"] m__law_draw) :
    Has P w K mg base cls (k + 1) "_law_mixed" ["_law_feed_here", "_law_some"] (dDef 2 4 (den__law_mixed m__law_draw)) := by
  have hN : N__law_mixed.Nodup := sc__law_mixed.nd
  refine Has.of (ps := ["_law_feed_here", "_law_some"]) g sc__law_mixed (fun _ _ _ _ _ _ us hl => match us, hl with | [_, _], _ => rfl) (fun cdv A outer s H E hr => ?_)
  exact (r_seq (r_par (i := 2) (j := 3) rfl hN rfl rfl (by decide) rfl rfl (r_acons (r_callTy call_list_of f_list rfl B.n_list (by decide +kernel) (r_acons (r_var 1 (pv 1)) r_anil)) (r_acons (r_lst r_anil) r_anil)) (by rfl)) (r_seq (r_while (passes_of rfl) (r_tcmp (op_neD (hu64 hr)) f_ne (r_var 2 (pv 2)) (r_lst r_anil) (by rfl)) (r_last (r_expr (r_bm f_append PySem.F.plainAttrs_list PySem.F.slot_list_append PySem.F.type_list_append mt_append (r_var 3 (pv 3)) (r_acons (r_bm f_popAt PySem.F.plainAttrs_list PySem.F.slot_list_pop PySem.F.type_list_pop mt_popAt (r_var 2 (pv 2)) (r_acons (r_callH h__law_draw hr rfl (takes_of rfl rfl rfl rfl) (r_acons (r_var 0 (pv 0)) (r_acons (r_callB c_len f_len rfl B.n_len (by decide +kernel) (r_acons (r_var 2 (pv 2)) r_anil)) r_anil))) r_anil)) r_anil))))) (r_last (r_ret (r_var 3 (pv 3))))))
/-! ### _law_gate: 0 _law_feed_here, 1 _law_sides, 2 _law_marks, 3 _law_form, 4 _law_numbers, 5 _law_pairs, 6 _law_mark, 7 _law_led, 8 _law_outs, 9 _law_rows, 10 _law_turns, 11 _law_goal, 12 _law_k, 13 _law_side, 14 _law_out -/
def N__law_gate : List Str := ["_law_feed_here", "_law_sides", "_law_marks", "_law_form", "_law_numbers", "_law_pairs", "_law_mark", "_law_led", "_law_outs", "_law_rows", "_law_turns", "_law_goal", "_law_k", "_law_side", "_law_out"]
theorem sc__law_gate : FnScope N__law_gate ["_law_feed_here", "_law_sides", "_law_marks"] (defScope (top 8)) := ⟨rfl, rfl, rfl, by decide +kernel, rfl, by decide +kernel, by decide +kernel⟩
def bs__law_gate_0 : Scope := ({ kind := PySem.ScopeKind.function, names := [(PySem.Str.ofString ".0", PySem.NameKind.local), (PySem.Str.ofString "_law_k", PySem.NameKind.local), (PySem.Str.ofString "_law_sides", PySem.NameKind.free)], isGenerator := false, isCoroutine := false, more := [] } : PySem.Scope)
theorem blk__law_gate_0 : BlkOk N__law_gate (defScope (top 8)) bs__law_gate_0 [(PySem.Str.ofString "_law_k", 12)] := ⟨rfl, by decide +kernel, by decide +kernel, by decide +kernel, by decide +kernel⟩
def bs__law_gate_1 : Scope := ({ kind := PySem.ScopeKind.function, names := [(PySem.Str.ofString ".0", PySem.NameKind.local), (PySem.Str.ofString "_law_mark", PySem.NameKind.local), (PySem.Str.ofString "tuple", PySem.NameKind.globalImplicit), (PySem.Str.ofString "_law_pairs", PySem.NameKind.free), (PySem.Str.ofString "_law_sides", PySem.NameKind.free)], isGenerator := false, isCoroutine := false, more := [] } : PySem.Scope)
theorem blk__law_gate_1 : BlkOk N__law_gate (defScope (top 8)) bs__law_gate_1 [(PySem.Str.ofString "_law_mark", 6)] := ⟨rfl, by decide +kernel, by decide +kernel, by decide +kernel, by decide +kernel⟩
def bs__law_gate_2 : Scope := ({ kind := PySem.ScopeKind.function, names := [(PySem.Str.ofString ".0", PySem.NameKind.local), (PySem.Str.ofString "_law_side", PySem.NameKind.local), (PySem.Str.ofString "_law_mixed", PySem.NameKind.globalImplicit), (PySem.Str.ofString "list", PySem.NameKind.globalImplicit), (PySem.Str.ofString "range", PySem.NameKind.globalImplicit), (PySem.Str.ofString "_law_feed_here", PySem.NameKind.free), (PySem.Str.ofString "_law_marks", PySem.NameKind.free)], isGenerator := false, isCoroutine := false, more := [] } : PySem.Scope)
theorem blk__law_gate_2 : BlkOk N__law_gate (defScope (top 8)) bs__law_gate_2 [(PySem.Str.ofString "_law_side", 13)] := ⟨rfl, by decide +kernel, by decide +kernel, by decide +kernel, by decide +kernel⟩
def bs__law_gate_3 : Scope := ({ kind := PySem.ScopeKind.function, names := [(PySem.Str.ofString ".0", PySem.NameKind.local), (PySem.Str.ofString "_law_side", PySem.NameKind.local), (PySem.Str.ofString "_law_mark", PySem.NameKind.free), (PySem.Str.ofString "_law_outs", PySem.NameKind.free), (PySem.Str.ofString "_law_turns", PySem.NameKind.free)], isGenerator := false, isCoroutine := false, more := [] } : PySem.Scope)
theorem blk__law_gate_3 : BlkOk N__law_gate (defScope (top 8)) bs__law_gate_3 [(PySem.Str.ofString "_law_side", 13)] := ⟨rfl, by decide +kernel, by decide +kernel, by decide +kernel, by decide +kernel⟩
def bs__law_gate_4 : Scope := ({ kind := PySem.ScopeKind.function, names := [(PySem.Str.ofString ".0", PySem.NameKind.local), (PySem.Str.ofString "_law_out", PySem.NameKind.local), (PySem.Str.ofString "_law_goal", PySem.NameKind.free)], isGenerator := false, isCoroutine := false, more := [] } : PySem.Scope)
theorem blk__law_gate_4 : BlkOk N__law_gate (defScope (top 8)) bs__law_gate_4 [(PySem.Str.ofString "_law_out", 14)] := ⟨rfl, by decide +kernel, by decide +kernel, by decide +kernel, by decide +kernel⟩
theorem tie__law_gate {P : Program} {w : World} {K : PySem.W.Frag} {mg : Str → Option Value} {base : Heap} {cls : Nat → Value} {k : Nat} {m__law_draw : DF} {m__law_mixed : DF} (B : Fr mg) (g : Ge K mg "_law_gate" (top 8)) (h__law_draw : Has P w K mg base cls k "_law_draw" ["_law_feed_here", "_law_many"] m__law_draw) (h__law_mixed : Has P w K mg base cls k "_law_mixed" ["_law_feed_here", "_law_some"] m__law_mixed) :
    Has P w K mg base cls (k + 1) "_law_gate" ["_law_feed_here", "_law_sides", "_law_marks"] (dDef 3 15 (den__law_gate m__law_draw m__law_mixed)) := by
  have hN : N__law_gate.Nodup := sc__law_gate.nd
  refine Has.of (ps := ["_law_feed_here", "_law_sides", "_law_marks"]) g sc__law_gate (fun _ _ _ _ _ _ us hl => match us, hl with | [_, _, _], _ => rfl) (fun cdv A outer s H E hr => ?_)
  exact (r_seq (r_par (i := 3) (j := 4) rfl hN rfl rfl (by decide) rfl rfl (r_acons (r_callH h__law_draw hr rfl (takes_of rfl rfl rfl rfl) (r_acons (r_var 0 (pv 0)) (r_acons r_int r_anil))) (r_acons (r_listRg rfl rfl B.n_list rfl B.n_range (r_var 1 (pv 1))) r_anil)) (by rfl)) (r_seq (r_if (r_tcmp op_lt (f_cmp _) (r_var 3 (pv 3)) r_int (by rfl)) (r_seq (r_set (i := 5) hN rfl (.inr rfl) (r_callH h__law_mixed hr rfl (takes_of rfl rfl rfl rfl) (r_acons (r_var 0 (pv 0)) (r_acons (r_lcV blk__law_gate_0 rfl hN (r_range1 rfl B.n_range (r_acons (r_op o_mul f_mul (r_var 1 (pv 1)) (r_var 2 (pv 2))) r_anil)) (fun _ _ _ _ _ => (t_name (pg_name hN rfl (.inl rfl) (.inr rfl)))) (fun _ _ _ _ _ => r_pts0) (fun _ _ _ _ _ => (r_tup (r_acons (r_op op_mod f_mod (r_var 12 (pv 12)) (r_var 1 (pv 1))) (r_acons (r_op op_fdiv f_div (r_var 12 (pv 12)) (r_var 1 (pv 1))) r_anil))))) r_anil)))) (r_last (r_ret (r_callTy call_tuple_of f_tuple rfl B.n_tuple (by decide +kernel) (r_acons (r_lcV blk__law_gate_1 rfl hN (r_range1 rfl B.n_range (r_acons (r_var 2 (pv 2)) r_anil)) (fun _ _ _ _ _ => (t_name (pg_name hN rfl (.inl rfl) (.inr rfl)))) (fun _ _ _ _ _ => r_pts0) (fun _ _ _ _ _ => (r_callTy call_tuple_of f_tuple rfl B.n_tuple (by decide +kernel) (r_acons (r_sl (r_var 5 (pv 5)) (r_part (r_op o_mul f_mul (r_var 1 (pv 1)) (r_var 6 (pv 6)))) (r_part (r_op o_add f_add (r_op o_mul f_mul (r_var 1 (pv 1)) (r_var 6 (pv 6))) (r_var 1 (pv 1))))) r_anil)))) r_anil))))) r_nil) (r_seq (r_asg (r_tup (r_acons (r_callH h__law_mixed hr rfl (takes_of rfl rfl rfl rfl) (r_acons (r_var 0 (pv 0)) (r_acons (r_listRg rfl rfl B.n_list rfl B.n_range (r_var 2 (pv 2))) r_anil))) (r_acons (r_callH h__law_mixed hr rfl (takes_of rfl rfl rfl rfl) (r_acons (r_var 0 (pv 0)) (r_acons (r_var 4 (pv 4)) r_anil))) (r_acons (r_lst r_anil) r_anil)))) (t_tup rfl (t_cons (t_name (pg_name hN rfl (.inl rfl) (.inl rfl))) (t_cons (t_name (pg_name hN rfl (.inr rfl) (.inl rfl))) (t_cons (t_name (pg_name hN rfl (.inl rfl) (.inl rfl))) t_nil))))) (r_seq (r_set (i := 10) hN rfl (.inr rfl) (r_lcV blk__law_gate_2 rfl hN (r_iter (r_var 4 (pv 4))) (fun _ _ _ _ _ => (t_name (pg_name hN rfl (.inl rfl) (.inr rfl)))) (fun _ _ _ _ _ => r_pts0) (fun _ _ _ _ _ => (r_callH h__law_mixed hr rfl tkW0 (r_acons (r_var 0 (pv 0)) (r_acons (r_listRg rfl rfl B.n_list rfl B.n_range (r_var 2 (pv 2))) r_anil)))))) (r_seq (r_for (passes_of rfl) rfl (r_range1 rfl B.n_range (r_acons (r_var 2 (pv 2)) r_anil)) (t_name (pg_name hN rfl (.inr rfl) (.inl rfl))) (r_last (r_if (r_tcmp (op_eqD (hu64 hr)) f_eq (r_var 3 (pv 3)) r_int (by rfl)) (r_last (r_expr (r_bm f_append PySem.F.plainAttrs_list PySem.F.slot_list_append PySem.F.type_list_append mt_append (r_var 9 (pv 9)) (r_acons (r_callTy call_tuple_of f_tuple rfl B.n_tuple (by decide +kernel) (r_acons (r_lcV blk__law_gate_3 rfl hN (r_iter (r_var 4 (pv 4))) (fun _ _ _ _ _ => (t_name (pg_name hN rfl (.inl rfl) (.inr rfl)))) (fun _ _ _ _ _ => r_pts0) (fun _ _ _ _ _ => (r_tup (r_acons (r_ix (o_ix (hu1 hr)) f_ix (r_var 8 (pv 8)) (r_var 13 (pv 13)) (fun _ _ => rfl)) (r_acons (r_ix (o_ix (hu1 hr)) f_ix (r_ix (o_ix (hu1 hr)) f_ix (r_var 10 (pv 10)) (r_var 13 (pv 13)) (fun _ _ => rfl)) (r_var 6 (pv 6)) (fun _ _ => rfl)) r_anil))))) r_anil)) r_anil)))) (r_seq (r_set (i := 11) hN rfl (.inr rfl) (r_ix (o_ix (hu1 hr)) f_ix (r_lst (r_acons (r_var 6 (pv 6)) (r_acons (r_ix (o_ix (hu1 hr)) f_ix (r_var 7 (pv 7)) (r_var 6 (pv 6)) (fun _ _ => rfl)) r_anil))) (r_callTy call_int1 f_int rfl B.n_int (by decide +kernel) (r_acons (r_cmp (op_eqD (hu64 hr)) f_eq (r_var 3 (pv 3)) r_int (by rfl)) r_anil)) (fun _ _ => rfl))) (r_last (r_expr (r_bm f_append PySem.F.plainAttrs_list PySem.F.slot_list_append PySem.F.type_list_append mt_append (r_var 9 (pv 9)) (r_acons (r_callTy call_tuple_of f_tuple rfl B.n_tuple (by decide +kernel) (r_acons (r_lcV blk__law_gate_4 rfl hN (r_iter (r_callH h__law_mixed hr rfl (takes_of rfl rfl rfl rfl) (r_acons (r_var 0 (pv 0)) (r_acons (r_var 4 (pv 4)) r_anil)))) (fun _ _ _ _ _ => (t_name (pg_name hN rfl (.inl rfl) (.inr rfl)))) (fun _ _ _ _ _ => r_pts0) (fun _ _ _ _ _ => (r_tup (r_acons (r_var 14 (pv 14)) (r_acons (r_var 11 (pv 11)) r_anil))))) r_anil)) r_anil)))))))) (r_last (r_ret (r_callTy call_tuple_of f_tuple rfl B.n_tuple (by decide +kernel) (r_acons (r_var 9 (pv 9)) r_anil)))))))))
/-! ### _law_alike: 0 _law_told, 1 _law_due_here, 2 _law_left, 3 _law_one, 4 _law_other -/
def N__law_alike : List Str := ["_law_told", "_law_due_here", "_law_left", "_law_one", "_law_other"]
theorem sc__law_alike : FnScope N__law_alike ["_law_told", "_law_due_here"] (defScope (top 9)) := ⟨rfl, rfl, rfl, by decide +kernel, rfl, by decide +kernel, by decide +kernel⟩
theorem tie__law_alike {P : Program} {w : World} {K : PySem.W.Frag} {mg : Str → Option Value} {base : Heap} {cls : Nat → Value} {k : Nat} (B : Fr mg) (g : Ge K mg "_law_alike" (top 9)) :
    Has P w K mg base cls (k + 1) "_law_alike" ["_law_told", "_law_due_here"] (dDef 2 5 (den__law_alike)) := by
  have hN : N__law_alike.Nodup := sc__law_alike.nd
  refine Has.of (ps := ["_law_told", "_law_due_here"]) g sc__law_alike (fun _ _ _ _ _ _ us hl => match us, hl with | [_, _], _ => rfl) (fun cdv A outer s H E hr => ?_)
  exact (r_seq (r_set (i := 2) hN rfl (.inl rfl) (r_lst (r_acons (r_tup (r_acons (r_var 0 (pv 0)) (r_acons (r_var 1 (pv 1)) r_anil))) r_anil))) (r_seq (r_while (passes_of rfl) (r_tcmp (op_neD (hu64 hr)) f_ne (r_var 2 (pv 2)) (r_lst r_anil) (by rfl)) (r_seq (r_asg (r_bm0 f_pop PySem.F.plainAttrs_list PySem.F.slot_list_pop PySem.F.type_list_pop mt_pop (r_var 2 (pv 2))) (t_tup rfl (t_cons (t_name (pg_name hN rfl (.inl rfl) (.inl rfl))) (t_cons (t_name (pg_name hN rfl (.inl rfl) (.inl rfl))) t_nil)))) (r_seq (r_if (L2.PW.pt (r_wor (r_tcmp (op_neD (hu64 hr)) f_ne (r_callB c_isi f_isi rfl B.n_isinstance (by decide +kernel) (r_acons (r_var 3 (pv 3)) (r_acons (r_ty rfl B.n_tuple (by decide +kernel)) r_anil))) (r_callB c_isi f_isi rfl B.n_isinstance (by decide +kernel) (r_acons (r_var 4 (pv 4)) (r_acons (r_ty rfl B.n_tuple (by decide +kernel)) r_anil))) (by rfl)) (r_wor1 (r_tcmp (op_neD (hu64 hr)) f_ne (r_callB c_isi f_isi rfl B.n_isinstance (by decide +kernel) (r_acons (r_var 3 (pv 3)) (r_acons (r_ty rfl B.n_list (by decide +kernel)) r_anil))) (r_callB c_isi f_isi rfl B.n_isinstance (by decide +kernel) (r_acons (r_var 4 (pv 4)) (r_acons (r_ty rfl B.n_list (by decide +kernel)) r_anil))) (by rfl))))) (r_last (r_ret r_bl)) r_nil) (r_seq (r_if (L2.PW.pt (r_wor (r_tcmp (op_neD (hu64 hr)) f_ne (r_callB c_isi f_isi rfl B.n_isinstance (by decide +kernel) (r_acons (r_var 3 (pv 3)) (r_acons (r_ty rfl B.n_bool (by decide +kernel)) r_anil))) (r_callB c_isi f_isi rfl B.n_isinstance (by decide +kernel) (r_acons (r_var 4 (pv 4)) (r_acons (r_ty rfl B.n_bool (by decide +kernel)) r_anil))) (by rfl)) (r_wor1 (r_tcmp (op_neD (hu64 hr)) f_ne (r_callB c_isi f_isi rfl B.n_isinstance (by decide +kernel) (r_acons (r_var 3 (pv 3)) (r_acons (r_ty rfl B.n_str (by decide +kernel)) r_anil))) (r_callB c_isi f_isi rfl B.n_isinstance (by decide +kernel) (r_acons (r_var 4 (pv 4)) (r_acons (r_ty rfl B.n_str (by decide +kernel)) r_anil))) (by rfl))))) (r_last (r_ret r_bl)) r_nil) (r_last (r_if (r_test (r_callB c_isi f_isi rfl B.n_isinstance (by decide +kernel) (r_acons (r_var 4 (pv 4)) (r_acons (r_tup (r_acons (r_ty rfl B.n_tuple (by decide +kernel)) (r_acons (r_ty rfl B.n_list (by decide +kernel)) r_anil))) r_anil)))) (r_seq (r_if (r_tcmp (op_neD (hu64 hr)) f_ne (r_callB c_len f_len rfl B.n_len (by decide +kernel) (r_acons (r_var 3 (pv 3)) r_anil)) (r_callB c_len f_len rfl B.n_len (by decide +kernel) (r_acons (r_var 4 (pv 4)) r_anil)) (by rfl)) (r_last (r_ret r_bl)) r_nil) (r_last (r_expr (r_bm f_extend PySem.F.plainAttrs_list PySem.F.slot_list_extend PySem.F.type_list_extend mt_extend (r_var 2 (pv 2)) (r_acons (r_listZip rfl rfl B.n_list rfl B.n_zip (r_acons (r_var 3 (pv 3)) (r_acons (r_var 4 (pv 4)) r_anil))) r_anil))))) (r_last (r_if (L2.PW.pt (r_wor (r_tcmp (op_neD (hu64 hr)) f_ne (r_var 3 (pv 3)) (r_var 4 (pv 4)) (by rfl)) (r_wor1 (r_tcmp (op_neD (hu64 hr)) f_ne (r_callB c_isi f_isi rfl B.n_isinstance (by decide +kernel) (r_acons (r_var 3 (pv 3)) (r_acons (r_ty rfl B.n_int (by decide +kernel)) r_anil))) (r_callB c_isi f_isi rfl B.n_isinstance (by decide +kernel) (r_acons (r_var 4 (pv 4)) (r_acons (r_ty rfl B.n_int (by decide +kernel)) r_anil))) (by rfl))))) (r_last (r_ret r_bl)) r_nil)))))))) (r_last (r_ret r_bl))))
/-! ### _law_twinned: 0 _law_feed_here, 1 _law_sides, 2 _law_few, 3 _law_times, 4 _law_base, 5 _law_names, 6 _law_rows, 7 _law_mark, 8 _law_side, 9 _law_swaps, 10 _law_n, 11 _law_row, 12 _law_pair -/
def N__law_twinned : List Str := ["_law_feed_here", "_law_sides", "_law_few", "_law_times", "_law_base", "_law_names", "_law_rows", "_law_mark", "_law_side", "_law_swaps", "_law_n", "_law_row", "_law_pair"]
theorem sc__law_twinned : FnScope N__law_twinned ["_law_feed_here", "_law_sides"] (defScope (top 10)) := ⟨rfl, rfl, rfl, by decide +kernel, rfl, by decide +kernel, by decide +kernel⟩
def bs__law_twinned_0 : Scope := ({ kind := PySem.ScopeKind.function, names := [(PySem.Str.ofString ".0", PySem.NameKind.local), (PySem.Str.ofString "_law_side", PySem.NameKind.local), (PySem.Str.ofString "_law_mixed", PySem.NameKind.globalImplicit), (PySem.Str.ofString "list", PySem.NameKind.globalImplicit), (PySem.Str.ofString "range", PySem.NameKind.globalImplicit), (PySem.Str.ofString "_law_feed_here", PySem.NameKind.free), (PySem.Str.ofString "_law_times", PySem.NameKind.free)], isGenerator := false, isCoroutine := false, more := [] } : PySem.Scope)
theorem blk__law_twinned_0 : BlkOk N__law_twinned (defScope (top 10)) bs__law_twinned_0 [(PySem.Str.ofString "_law_side", 8)] := ⟨rfl, by decide +kernel, by decide +kernel, by decide +kernel, by decide +kernel⟩
theorem tie__law_twinned {P : Program} {w : World} {K : PySem.W.Frag} {mg : Str → Option Value} {base : Heap} {cls : Nat → Value} {k : Nat} {m__law_draw : DF} {m__law_mixed : DF} {m__law_gate : DF} (B : Fr mg) (g : Ge K mg "_law_twinned" (top 10)) (h__law_draw : Has P w K mg base cls k "_law_draw" ["_law_feed_here", "_law_many"] m__law_draw) (h__law_mixed : Has P w K mg base cls k "_law_mixed" ["_law_feed_here", "_law_some"] m__law_mixed) (h__law_gate : Has P w K mg base cls k "_law_gate" ["_law_feed_here", "_law_sides", "_law_marks"] m__law_gate) :
    Has P w K mg base cls (k + 1) "_law_twinned" ["_law_feed_here", "_law_sides"] (dDef 2 13 (den__law_twinned m__law_draw m__law_mixed m__law_gate)) := by
  have hN : N__law_twinned.Nodup := sc__law_twinned.nd
  refine Has.of (ps := ["_law_feed_here", "_law_sides"]) g sc__law_twinned (fun _ _ _ _ _ _ us hl => match us, hl with | [_, _], _ => rfl) (fun cdv A outer s H E hr => ?_)
  exact (r_seq (r_set (i := 2) hN rfl (.inl rfl) (r_op o_add f_add r_int (r_callH h__law_draw hr rfl (takes_of rfl rfl rfl rfl) (r_acons (r_var 0 (pv 0)) (r_acons r_int r_anil))))) (r_seq (r_set (i := 3) hN rfl (.inr rfl) (r_op o_add f_add r_int (r_callH h__law_draw hr rfl (takes_of rfl rfl rfl rfl) (r_acons (r_var 0 (pv 0)) (r_acons (r_op op_fdiv f_div r_int (r_var 2 (pv 2))) r_anil))))) (r_seq (r_par (i := 4) (j := 5) rfl hN rfl rfl (by decide) rfl rfl (r_acons (r_callH h__law_gate hr rfl (takes_of rfl rfl rfl rfl) (r_acons (r_var 0 (pv 0)) (r_acons (r_var 1 (pv 1)) (r_acons (r_var 2 (pv 2)) r_anil)))) (r_acons (r_callH h__law_mixed hr rfl (takes_of rfl rfl rfl rfl) (r_acons (r_var 0 (pv 0)) (r_acons (r_listRg rfl rfl B.n_list rfl B.n_range (r_op o_mul f_mul (r_var 2 (pv 2)) (r_var 3 (pv 3)))) r_anil))) r_anil)) (by rfl)) (r_seq (r_set (i := 6) hN rfl (.inl rfl) (r_op o_mul f_mul (r_lst (r_acons (r_tup r_anil) r_anil)) (r_op o_mul f_mul (r_var 2 (pv 2)) (r_var 3 (pv 3))))) (r_seq (r_for (passes_of rfl) rfl (r_range1 rfl B.n_range (r_acons (r_var 2 (pv 2)) r_anil)) (t_name (pg_name hN rfl (.inl rfl) (.inl rfl))) (r_seq (r_setLcV (i := 9) blk__law_twinned_0 rfl hN rfl rfl rfl (r_range1 rfl B.n_range (r_acons (r_var 1 (pv 1)) r_anil)) (fun _ _ _ _ _ => (t_name (pg_name hN rfl (.inl rfl) (.inr rfl)))) (fun _ _ _ _ _ => r_pts0) (fun _ _ _ _ _ => (r_callH h__law_mixed hr rfl tkW0 (r_acons (r_var 0 (pv 0)) (r_acons (r_listRg rfl rfl B.n_list rfl B.n_range (r_var 3 (pv 3))) r_anil))))) (r_last (r_for (passes_of rfl) rfl (r_range1 rfl B.n_range (r_acons (r_var 3 (pv 3)) r_anil)) (t_name (pg_name hN rfl (.inl rfl) (.inl rfl))) (r_seq (r_set (i := 11) hN rfl (.inl rfl) (r_lst r_anil)) (r_seq (r_for (passes_of rfl) rfl (r_enum rfl B.n_enumerate (r_acons (r_ix (o_ix (hu1 hr)) f_ix (r_var 4 (pv 4)) (r_var 7 (pv 7)) (fun _ _ => rfl)) r_anil)) (t_tup rfl (t_cons (t_name (pg_name hN rfl (.inl rfl) (.inl rfl))) (t_cons (t_name (pg_name hN rfl (.inl rfl) (.inl rfl))) t_nil))) (r_last (r_expr (r_bm f_append PySem.F.plainAttrs_list PySem.F.slot_list_append PySem.F.type_list_append mt_append (r_var 11 (pv 11)) (r_acons (r_tup (r_acons (r_ix (o_ix (hu1 hr)) f_ix (r_var 12 (pv 12)) r_int (fun _ _ => rfl)) (r_acons (r_ix (o_ix (hu1 hr)) f_ix (r_var 5 (pv 5)) (r_op o_add f_add (r_op o_mul f_mul (r_var 3 (pv 3)) (r_ix (o_ix (hu1 hr)) f_ix (r_var 12 (pv 12)) r_int (fun _ _ => rfl))) (r_ix (o_ix (hu1 hr)) f_ix (r_ix (o_ix (hu1 hr)) f_ix (r_var 9 (pv 9)) (r_var 8 (pv 8)) (fun _ _ => rfl)) (r_var 10 (pv 10)) (fun _ _ => rfl))) (fun _ _ => rfl)) r_anil))) r_anil))))) (r_last (r_asg (r_callTy call_tuple_of f_tuple rfl B.n_tuple (by decide +kernel) (r_acons (r_var 11 (pv 11)) r_anil)) (t_sub (W := W0) (hu1 hr) (r_var 6 (pv 6)) (r_ix (o_ix (hu1 hr)) f_ix (r_var 5 (pv 5)) (r_op o_add f_add (r_op o_mul f_mul (r_var 3 (pv 3)) (r_var 7 (pv 7))) (r_var 10 (pv 10))) (fun _ _ => rfl))))))))))) (r_last (r_ret (r_callTy call_tuple_of f_tuple rfl B.n_tuple (by decide +kernel) (r_acons (r_var 6 (pv 6)) r_anil)))))))))
/-! ### _law_street: 0 _law_one, 1 _law_mark, 2 _law_other, 3 _law_its, 4 _law_found, 5 _law_now, 6 _law_many, 7 _law_later, 8 _law_mine, 9 _law_there, 10 _law_mine_pair, 11 _law_its_pair, 12 _law_pair -/
def N__law_street : List Str := ["_law_one", "_law_mark", "_law_other", "_law_its", "_law_found", "_law_now", "_law_many", "_law_later", "_law_mine", "_law_there", "_law_mine_pair", "_law_its_pair", "_law_pair"]
theorem sc__law_street : FnScope N__law_street ["_law_one", "_law_mark", "_law_other", "_law_its"] (defScope (top 11)) := ⟨rfl, rfl, rfl, by decide +kernel, rfl, by decide +kernel, by decide +kernel⟩
theorem tie__law_street {P : Program} {w : World} {K : PySem.W.Frag} {mg : Str → Option Value} {base : Heap} {cls : Nat → Value} {k : Nat} (B : Fr mg) (g : Ge K mg "_law_street" (top 11)) :
    Has P w K mg base cls (k + 1) "_law_street" ["_law_one", "_law_mark", "_law_other", "_law_its"] (dDef 4 13 (den__law_street)) := by
  have hN : N__law_street.Nodup := sc__law_street.nd
  refine Has.of (ps := ["_law_one", "_law_mark", "_law_other", "_law_its"]) g sc__law_street (fun _ _ _ _ _ _ us hl => match us, hl with | [_, _, _, _], _ => rfl) (fun cdv A outer s H E hr => ?_)
  exact (r_seq (r_par3 (i := 4) (j := 5) (l := 6) rfl hN rfl rfl rfl (by decide) (by decide) (by decide) rfl rfl rfl (r_acons (r_dispT (hu1 hr) (r_tup (r_acons (r_var 1 (pv 1)) (r_acons (r_var 3 (pv 3)) r_anil))) r_bl) (r_acons (r_lst (r_acons (r_tup (r_acons (r_var 1 (pv 1)) (r_acons (r_var 3 (pv 3)) r_anil))) r_anil)) (r_acons r_int r_anil))) (by rfl)) (r_seq (r_while (passes_of rfl) (r_tcmp (op_neD (hu64 hr)) f_ne (r_var 5 (pv 5)) (r_lst r_anil) (by rfl)) (r_seq (r_par (i := 7) (j := 6) rfl hN rfl rfl (by decide) rfl rfl (r_acons (r_lst r_anil) (r_acons (r_op o_add f_add (r_var 6 (pv 6)) r_int) r_anil)) (by rfl)) (r_seq (r_for (passes_of rfl) rfl (r_iter (r_var 5 (pv 5))) (t_tup rfl (t_cons (t_name (pg_name hN rfl (.inl rfl) (.inl rfl))) (t_cons (t_name (pg_name hN rfl (.inl rfl) (.inl rfl))) t_nil))) (r_last (r_for (passes_of rfl) rfl (r_zip rfl B.n_zip (r_acons (r_ix (o_ix (hu1 hr)) f_ix (r_var 0 (pv 0)) (r_var 8 (pv 8)) (fun _ _ => rfl)) (r_acons (r_ix (o_ix (hu1 hr)) f_ix (r_var 2 (pv 2)) (r_var 9 (pv 9)) (fun _ _ => rfl)) r_anil))) (t_tup rfl (t_cons (t_name (pg_name hN rfl (.inl rfl) (.inl rfl))) (t_cons (t_name (pg_name hN rfl (.inl rfl) (.inl rfl))) t_nil))) (r_seq (r_if (r_tcmp (op_neD (hu64 hr)) f_ne (r_ix (o_ix (hu1 hr)) f_ix (r_var 10 (pv 10)) r_int (fun _ _ => rfl)) (r_ix (o_ix (hu1 hr)) f_ix (r_var 11 (pv 11)) r_int (fun _ _ => rfl)) (by rfl)) (r_last (r_ret (r_tup (r_acons r_str (r_acons (r_var 6 (pv 6)) r_anil))))) r_nil) (r_seq (r_set (i := 12) hN rfl (.inl rfl) (r_tup (r_acons (r_ix (o_ix (hu1 hr)) f_ix (r_var 10 (pv 10)) r_int (fun _ _ => rfl)) (r_acons (r_ix (o_ix (hu1 hr)) f_ix (r_var 11 (pv 11)) r_int (fun _ _ => rfl)) r_anil)))) (r_last (r_if (r_tcmp (o_notin (hub hr)) (f_in true) (r_var 12 (pv 12)) (r_var 4 (pv 4)) (by rfl)) (r_seq (r_asg r_bl (t_sub (W := W0) (hu1 hr) (r_var 4 (pv 4)) (r_var 12 (pv 12)))) (r_last (r_expr (r_bm f_append PySem.F.plainAttrs_list PySem.F.slot_list_append PySem.F.type_list_append mt_append (r_var 7 (pv 7)) (r_acons (r_var 12 (pv 12)) r_anil))))) r_nil))))))) (r_last (r_set (i := 5) hN rfl (.inl rfl) (r_var 7 (pv 7))))))) (r_last (r_ret (r_tup (r_acons r_str (r_acons (r_callTy call_tuple_of f_tuple rfl B.n_tuple (by decide +kernel) (r_acons (r_callB cr_sortedPO f_sorted rfl B.n_sorted (by decide +kernel) (r_acons (r_callTy (call_list_dT rfl) f_listT rfl B.n_list (by decide +kernel) (r_acons (r_var 4 (pv 4)) r_anil)) r_anil)) r_anil)) r_anil)))))))
/-! ### _law_renumbered: 0 _law_feed_here, 1 _law_gate_here, 2 _law_names, 3 _law_rows, 4 _law_mark, 5 _law_row, 6 _law_pair -/
def N__law_renumbered : List Str := ["_law_feed_here", "_law_gate_here", "_law_names", "_law_rows", "_law_mark", "_law_row", "_law_pair"]
theorem sc__law_renumbered : FnScope N__law_renumbered ["_law_feed_here", "_law_gate_here"] (defScope (top 12)) := ⟨rfl, rfl, rfl, by decide +kernel, rfl, by decide +kernel, by decide +kernel⟩
def bs__law_renumbered_0 : Scope := ({ kind := PySem.ScopeKind.function, names := [(PySem.Str.ofString ".0", PySem.NameKind.local), (PySem.Str.ofString "_law_pair", PySem.NameKind.local), (PySem.Str.ofString "_law_names", PySem.NameKind.free)], isGenerator := false, isCoroutine := false, more := [] } : PySem.Scope)
theorem blk__law_renumbered_0 : BlkOk N__law_renumbered (defScope (top 12)) bs__law_renumbered_0 [(PySem.Str.ofString "_law_pair", 6)] := ⟨rfl, by decide +kernel, by decide +kernel, by decide +kernel, by decide +kernel⟩
theorem tie__law_renumbered {P : Program} {w : World} {K : PySem.W.Frag} {mg : Str → Option Value} {base : Heap} {cls : Nat → Value} {k : Nat} {m__law_mixed : DF} (B : Fr mg) (g : Ge K mg "_law_renumbered" (top 12)) (h__law_mixed : Has P w K mg base cls k "_law_mixed" ["_law_feed_here", "_law_some"] m__law_mixed) :
    Has P w K mg base cls (k + 1) "_law_renumbered" ["_law_feed_here", "_law_gate_here"] (dDef 2 7 (den__law_renumbered m__law_mixed)) := by
  have hN : N__law_renumbered.Nodup := sc__law_renumbered.nd
  refine Has.of (ps := ["_law_feed_here", "_law_gate_here"]) g sc__law_renumbered (fun _ _ _ _ _ _ us hl => match us, hl with | [_, _], _ => rfl) (fun cdv A outer s H E hr => ?_)
  exact (r_seq (r_set (i := 2) hN rfl (.inr rfl) (r_callH h__law_mixed hr rfl (takes_of rfl rfl rfl rfl) (r_acons (r_var 0 (pv 0)) (r_acons (r_listRg rfl rfl B.n_list rfl B.n_range (r_callB c_len f_len rfl B.n_len (by decide +kernel) (r_acons (r_var 1 (pv 1)) r_anil))) r_anil)))) (r_seq (r_set (i := 3) hN rfl (.inl rfl) (r_op o_mul f_mul (r_lst (r_acons (r_tup r_anil) r_anil)) (r_callB c_len f_len rfl B.n_len (by decide +kernel) (r_acons (r_var 1 (pv 1)) r_anil)))) (r_seq (r_for (passes_of rfl) rfl (r_enum rfl B.n_enumerate (r_acons (r_var 1 (pv 1)) r_anil)) (t_tup rfl (t_cons (t_name (pg_name hN rfl (.inl rfl) (.inl rfl))) (t_cons (t_name (pg_name hN rfl (.inl rfl) (.inl rfl))) t_nil))) (r_last (r_asg (r_callTy call_tuple_of f_tuple rfl B.n_tuple (by decide +kernel) (r_acons (r_lcV blk__law_renumbered_0 rfl hN (r_iter (r_var 5 (pv 5))) (fun _ _ _ _ _ => (t_name (pg_name hN rfl (.inl rfl) (.inr rfl)))) (fun _ _ _ _ _ => r_pts0) (fun _ _ _ _ _ => (r_tup (r_acons (r_ix (o_ix (hu1 hr)) f_ix (r_var 6 (pv 6)) r_int (fun _ _ => rfl)) (r_acons (r_ix (o_ix (hu1 hr)) f_ix (r_var 2 (pv 2)) (r_ix (o_ix (hu1 hr)) f_ix (r_var 6 (pv 6)) r_int (fun _ _ => rfl)) (fun _ _ => rfl)) r_anil))))) r_anil)) (t_sub (W := W0) (hu1 hr) (r_var 3 (pv 3)) (r_ix (o_ix (hu1 hr)) f_ix (r_var 2 (pv 2)) (r_var 4 (pv 4)) (fun _ _ => rfl)))))) (r_last (r_ret (r_callTy call_tuple_of f_tuple rfl B.n_tuple (by decide +kernel) (r_acons (r_var 3 (pv 3)) r_anil)))))))
/-! ### _law_ringed: 0 _law_feed_here, 1 _law_sides, 2 _law_marks, 3 _law_rows, 4 _law_straight, 5 _law_mark, 6 _law_outs, 7 _law_out -/
def N__law_ringed : List Str := ["_law_feed_here", "_law_sides", "_law_marks", "_law_rows", "_law_straight", "_law_mark", "_law_outs", "_law_out"]
theorem sc__law_ringed : FnScope N__law_ringed ["_law_feed_here", "_law_sides"] (defScope (top 13)) := ⟨rfl, rfl, rfl, by decide +kernel, rfl, by decide +kernel, by decide +kernel⟩
def bs__law_ringed_0 : Scope := ({ kind := PySem.ScopeKind.function, names := [(PySem.Str.ofString ".0", PySem.NameKind.local), (PySem.Str.ofString "_law_out", PySem.NameKind.local), (PySem.Str.ofString "_law_mark", PySem.NameKind.free), (PySem.Str.ofString "_law_marks", PySem.NameKind.free)], isGenerator := false, isCoroutine := false, more := [] } : PySem.Scope)
theorem blk__law_ringed_0 : BlkOk N__law_ringed (defScope (top 13)) bs__law_ringed_0 [(PySem.Str.ofString "_law_out", 7)] := ⟨rfl, by decide +kernel, by decide +kernel, by decide +kernel, by decide +kernel⟩
theorem tie__law_ringed {P : Program} {w : World} {K : PySem.W.Frag} {mg : Str → Option Value} {base : Heap} {cls : Nat → Value} {k : Nat} {m__law_draw : DF} {m__law_renumbered : DF} (B : Fr mg) (g : Ge K mg "_law_ringed" (top 13)) (h__law_draw : Has P w K mg base cls k "_law_draw" ["_law_feed_here", "_law_many"] m__law_draw) (h__law_renumbered : Has P w K mg base cls k "_law_renumbered" ["_law_feed_here", "_law_gate_here"] m__law_renumbered) :
    Has P w K mg base cls (k + 1) "_law_ringed" ["_law_feed_here", "_law_sides"] (dDef 2 8 (den__law_ringed m__law_draw m__law_renumbered)) := by
  have hN : N__law_ringed.Nodup := sc__law_ringed.nd
  refine Has.of (ps := ["_law_feed_here", "_law_sides"]) g sc__law_ringed (fun _ _ _ _ _ _ us hl => match us, hl with | [_, _], _ => rfl) (fun cdv A outer s H E hr => ?_)
  exact (r_seq (r_asg (r_tup (r_acons (r_op o_add f_add r_int (r_callH h__law_draw hr rfl (takes_of rfl rfl rfl rfl) (r_acons (r_var 0 (pv 0)) (r_acons r_int r_anil)))) (r_acons (r_lst r_anil) r_anil))) (t_tup rfl (t_cons (t_name (pg_name hN rfl (.inr rfl) (.inl rfl))) (t_cons (t_name (pg_name hN rfl (.inl rfl) (.inl rfl))) t_nil)))) (r_seq (r_set (i := 4) hN rfl (.inl rfl) (r_listRg rfl rfl B.n_list rfl B.n_range (r_var 1 (pv 1)))) (r_seq (r_for (passes_of rfl) rfl (r_range1 rfl B.n_range (r_acons (r_var 2 (pv 2)) r_anil)) (t_name (pg_name hN rfl (.inr rfl) (.inl rfl))) (r_seq (r_set (i := 6) hN rfl (.inl rfl) (r_ix (o_ix (hu1 hr)) f_ix (r_lst (r_acons (r_var 4 (pv 4)) (r_acons (r_op o_add f_add (r_op o_add f_add (r_sl (r_var 4 (pv 4)) (r_part (r_un un_neg f_neg r_int)) r_noPart) (r_sl (r_var 4 (pv 4)) (r_part r_int) (r_part (r_un un_neg f_neg r_int)))) (r_op o_mul f_mul (r_sl (r_var 4 (pv 4)) r_noPart (r_part r_int)) (r_callTy call_int1 f_int rfl B.n_int (by decide +kernel) (r_acons (r_cmp op_gt (f_cmp _) (r_var 1 (pv 1)) r_int (by rfl)) r_anil)))) r_anil))) (r_callTy call_int1 f_int rfl B.n_int (by decide +kernel) (r_acons (r_cmp (op_eqD (hu64 hr)) f_eq (r_var 5 (pv 5)) r_int (by rfl)) r_anil)) (fun _ _ => rfl))) (r_last (r_expr (r_bm f_append PySem.F.plainAttrs_list PySem.F.slot_list_append PySem.F.type_list_append mt_append (r_var 3 (pv 3)) (r_acons (r_callTy call_tuple_of f_tuple rfl B.n_tuple (by decide +kernel) (r_acons (r_lcV blk__law_ringed_0 rfl hN (r_iter (r_var 6 (pv 6))) (fun _ _ _ _ _ => (t_name (pg_name hN rfl (.inl rfl) (.inr rfl)))) (fun _ _ _ _ _ => r_pts0) (fun _ _ _ _ _ => (r_tup (r_acons (r_var 7 (pv 7)) (r_acons (r_op op_mod f_mod (r_op o_add f_add (r_var 5 (pv 5)) r_int) (r_var 2 (pv 2))) r_anil))))) r_anil)) r_anil)))))) (r_last (r_ret (r_callH h__law_renumbered hr rfl (takes_of rfl rfl rfl rfl) (r_acons (r_var 0 (pv 0)) (r_acons (r_callTy call_tuple_of f_tuple rfl B.n_tuple (by decide +kernel) (r_acons (r_var 3 (pv 3)) r_anil)) r_anil))))))))
/-! ### _law_any_gate: 0 _law_feed_here, 1 _law_sides, 2 _law_form -/
def N__law_any_gate : List Str := ["_law_feed_here", "_law_sides", "_law_form"]
theorem sc__law_any_gate : FnScope N__law_any_gate ["_law_feed_here", "_law_sides"] (defScope (top 14)) := ⟨rfl, rfl, rfl, by decide +kernel, rfl, by decide +kernel, by decide +kernel⟩
theorem tie__law_any_gate {P : Program} {w : World} {K : PySem.W.Frag} {mg : Str → Option Value} {base : Heap} {cls : Nat → Value} {k : Nat} {m__law_draw : DF} {m__law_twinned : DF} {m__law_ringed : DF} {m__law_gate : DF} (B : Fr mg) (g : Ge K mg "_law_any_gate" (top 14)) (h__law_draw : Has P w K mg base cls k "_law_draw" ["_law_feed_here", "_law_many"] m__law_draw) (h__law_twinned : Has P w K mg base cls k "_law_twinned" ["_law_feed_here", "_law_sides"] m__law_twinned) (h__law_ringed : Has P w K mg base cls k "_law_ringed" ["_law_feed_here", "_law_sides"] m__law_ringed) (h__law_gate : Has P w K mg base cls k "_law_gate" ["_law_feed_here", "_law_sides", "_law_marks"] m__law_gate) :
    Has P w K mg base cls (k + 1) "_law_any_gate" ["_law_feed_here", "_law_sides"] (dDef 2 3 (den__law_any_gate m__law_draw m__law_twinned m__law_ringed m__law_gate)) := by
  have hN : N__law_any_gate.Nodup := sc__law_any_gate.nd
  refine Has.of (ps := ["_law_feed_here", "_law_sides"]) g sc__law_any_gate (fun _ _ _ _ _ _ us hl => match us, hl with | [_, _], _ => rfl) (fun cdv A outer s H E hr => ?_)
  exact (r_seq (r_set (i := 2) hN rfl (.inl rfl) (r_callH h__law_draw hr rfl (takes_of rfl rfl rfl rfl) (r_acons (r_var 0 (pv 0)) (r_acons r_int r_anil)))) (r_seq (r_if (r_tcmp (op_eqD (hu64 hr)) f_eq (r_var 2 (pv 2)) r_int (by rfl)) (r_last (r_ret (r_callH h__law_twinned hr rfl (takes_of rfl rfl rfl rfl) (r_acons (r_var 0 (pv 0)) (r_acons (r_var 1 (pv 1)) r_anil))))) r_nil) (r_seq (r_if (r_tcmp (op_eqD (hu64 hr)) f_eq (r_var 2 (pv 2)) r_int (by rfl)) (r_last (r_ret (r_callH h__law_ringed hr rfl (takes_of rfl rfl rfl rfl) (r_acons (r_var 0 (pv 0)) (r_acons (r_var 1 (pv 1)) r_anil))))) r_nil) (r_last (r_ret (r_callH h__law_gate hr rfl (takes_of rfl rfl rfl rfl) (r_acons (r_var 0 (pv 0)) (r_acons (r_var 1 (pv 1)) (r_acons (r_op o_add f_add r_int (r_callH h__law_draw hr rfl (takes_of rfl rfl rfl rfl) (r_acons (r_var 0 (pv 0)) (r_acons r_int r_anil)))) r_anil)))))))))
/-! ### _law_led_marks: 0 _law_gate_here, 1 _law_found, 2 _law_firsts, 3 _law_mark, 4 _law_some, 5 _law_n, 6 _law_first -/
def N__law_led_marks : List Str := ["_law_gate_here", "_law_found", "_law_firsts", "_law_mark", "_law_some", "_law_n", "_law_first"]
theorem sc__law_led_marks : FnScope N__law_led_marks ["_law_gate_here"] (defScope (top 15)) := ⟨rfl, rfl, rfl, by decide +kernel, rfl, by decide +kernel, by decide +kernel⟩
def bs__law_led_marks_0 : Scope := ({ kind := PySem.ScopeKind.function, names := [(PySem.Str.ofString ".0", PySem.NameKind.local), (PySem.Str.ofString "_law_n", PySem.NameKind.local), (PySem.Str.ofString "_law_first", PySem.NameKind.local), (PySem.Str.ofString "_law_street", PySem.NameKind.globalImplicit), (PySem.Str.ofString "_law_gate_here", PySem.NameKind.free), (PySem.Str.ofString "_law_mark", PySem.NameKind.free)], isGenerator := false, isCoroutine := false, more := [] } : PySem.Scope)
theorem blk__law_led_marks_0 : BlkOk N__law_led_marks (defScope (top 15)) bs__law_led_marks_0 [(PySem.Str.ofString "_law_n", 5), (PySem.Str.ofString "_law_first", 6)] := ⟨rfl, by decide +kernel, by decide +kernel, by decide +kernel, by decide +kernel⟩
theorem tie__law_led_marks {P : Program} {w : World} {K : PySem.W.Frag} {mg : Str → Option Value} {base : Heap} {cls : Nat → Value} {k : Nat} {m__law_street : DF} (B : Fr mg) (g : Ge K mg "_law_led_marks" (top 15)) (h__law_street : Has P w K mg base cls k "_law_street" ["_law_one", "_law_mark", "_law_other", "_law_its"] m__law_street) :
    Has P w K mg base cls (k + 1) "_law_led_marks" ["_law_gate_here"] (dDef 1 7 (den__law_led_marks m__law_street)) := by
  have hN : N__law_led_marks.Nodup := sc__law_led_marks.nd
  refine Has.of (ps := ["_law_gate_here"]) g sc__law_led_marks (fun _ _ _ _ _ _ us hl => match us, hl with | [_], _ => rfl) (fun cdv A outer s H E hr => ?_)
  exact (r_seq (r_par (i := 1) (j := 2) rfl hN rfl rfl (by decide) rfl rfl (r_acons (r_lst r_anil) (r_acons (r_lst r_anil) r_anil)) (by rfl)) (r_seq (r_for (passes_of rfl) rfl (r_range1 rfl B.n_range (r_acons (r_callB c_len f_len rfl B.n_len (by decide +kernel) (r_acons (r_var 0 (pv 0)) r_anil)) r_anil)) (t_name (pg_name hN rfl (.inr rfl) (.inl rfl))) (r_seq (r_setLcV (i := 4) blk__law_led_marks_0 rfl hN rfl rfl rfl (r_enum rfl B.n_enumerate (r_acons (r_var 2 (pv 2)) r_anil)) (fun _ _ _ _ _ => (t_tup rfl (t_cons (t_name (pg_name hN rfl (.inl rfl) (.inr rfl))) (t_cons (t_name (pg_name hN rfl (.inl rfl) (.inr rfl))) t_nil)))) (fun _ _ _ _ _ => (r_pts1 (r_tcmp (op_eqD (hu64 hr)) f_eq (r_ix (o_ix (hu1 hr)) f_ix (r_callH h__law_street hr rfl tkW0 (r_acons (r_var 0 (pv 0)) (r_acons (r_var 3 (pv 3)) (r_acons (r_var 0 (pv 0)) (r_acons (r_var 6 (pv 6)) r_anil))))) r_int (fun _ _ => rfl)) r_str (by rfl)))) (fun _ _ _ _ _ => (r_var 5 (pv 5)))) (r_seq (r_if (r_tcmp (op_eqD (hu64 hr)) f_eq (r_var 4 (pv 4)) (r_lst r_anil) (by rfl)) (r_seq (r_set (i := 4) hN rfl (.inl rfl) (r_lst (r_acons (r_callB c_len f_len rfl B.n_len (by decide +kernel) (r_acons (r_var 2 (pv 2)) r_anil)) r_anil))) (r_last (r_expr (r_bm f_append PySem.F.plainAttrs_list PySem.F.slot_list_append PySem.F.type_list_append mt_append (r_var 2 (pv 2)) (r_acons (r_var 3 (pv 3)) r_anil))))) r_nil) (r_last (r_expr (r_bm f_append PySem.F.plainAttrs_list PySem.F.slot_list_append PySem.F.type_list_append mt_append (r_var 1 (pv 1)) (r_acons (r_ix (o_ix (hu1 hr)) f_ix (r_var 4 (pv 4)) r_int (fun _ _ => rfl)) r_anil))))))) (r_last (r_ret (r_tup (r_acons (r_var 1 (pv 1)) (r_acons (r_var 2 (pv 2)) r_anil)))))))
/-! ### _law_due: 0 _law_gate_here, 1 _law_led, 2 _law_firsts, 3 _law_rows, 4 _law_first, 5 _law_pair -/
def N__law_due : List Str := ["_law_gate_here", "_law_led", "_law_firsts", "_law_rows", "_law_first", "_law_pair"]
theorem sc__law_due : FnScope N__law_due ["_law_gate_here"] (defScope (top 16)) := ⟨rfl, rfl, rfl, by decide +kernel, rfl, by decide +kernel, by decide +kernel⟩
def bs__law_due_0 : Scope := ({ kind := PySem.ScopeKind.function, names := [(PySem.Str.ofString ".0", PySem.NameKind.local), (PySem.Str.ofString "_law_pair", PySem.NameKind.local), (PySem.Str.ofString "_law_led", PySem.NameKind.free)], isGenerator := false, isCoroutine := false, more := [] } : PySem.Scope)
theorem blk__law_due_0 : BlkOk N__law_due (defScope (top 16)) bs__law_due_0 [(PySem.Str.ofString "_law_pair", 5)] := ⟨rfl, by decide +kernel, by decide +kernel, by decide +kernel, by decide +kernel⟩
theorem tie__law_due {P : Program} {w : World} {K : PySem.W.Frag} {mg : Str → Option Value} {base : Heap} {cls : Nat → Value} {k : Nat} {m__law_led_marks : DF} (B : Fr mg) (g : Ge K mg "_law_due" (top 16)) (h__law_led_marks : Has P w K mg base cls k "_law_led_marks" ["_law_gate_here"] m__law_led_marks) :
    Has P w K mg base cls (k + 1) "_law_due" ["_law_gate_here"] (dDef 1 6 (den__law_due m__law_led_marks)) := by
  have hN : N__law_due.Nodup := sc__law_due.nd
  refine Has.of (ps := ["_law_gate_here"]) g sc__law_due (fun _ _ _ _ _ _ us hl => match us, hl with | [_], _ => rfl) (fun cdv A outer s H E hr => ?_)
  exact (r_seq (r_asg (r_callH h__law_led_marks hr rfl (takes_of rfl rfl rfl rfl) (r_acons (r_var 0 (pv 0)) r_anil)) (t_tup rfl (t_cons (t_name (pg_name hN rfl (.inr rfl) (.inl rfl))) (t_cons (t_name (pg_name hN rfl (.inl rfl) (.inl rfl))) t_nil)))) (r_seq (r_set (i := 3) hN rfl (.inl rfl) (r_lst r_anil)) (r_seq (r_for (passes_of rfl) rfl (r_iter (r_var 2 (pv 2))) (t_name (pg_name hN rfl (.inl rfl) (.inl rfl))) (r_last (r_expr (r_bm f_append PySem.F.plainAttrs_list PySem.F.slot_list_append PySem.F.type_list_append mt_append (r_var 3 (pv 3)) (r_acons (r_callTy call_tuple_of f_tuple rfl B.n_tuple (by decide +kernel) (r_acons (r_lcV blk__law_due_0 rfl hN (r_iter (r_ix (o_ix (hu1 hr)) f_ix (r_var 0 (pv 0)) (r_var 4 (pv 4)) (fun _ _ => rfl))) (fun _ _ _ _ _ => (t_name (pg_name hN rfl (.inl rfl) (.inr rfl)))) (fun _ _ _ _ _ => r_pts0) (fun _ _ _ _ _ => (r_tup (r_acons (r_ix (o_ix (hu1 hr)) f_ix (r_var 5 (pv 5)) r_int (fun _ _ => rfl)) (r_acons (r_ix (o_ix (hu1 hr)) f_ix (r_var 1 (pv 1)) (r_ix (o_ix (hu1 hr)) f_ix (r_var 5 (pv 5)) r_int (fun _ _ => rfl)) (fun _ _ => rfl)) r_anil))))) r_anil)) r_anil))))) (r_last (r_ret (r_tup (r_acons (r_callTy call_tuple_of f_tuple rfl B.n_tuple (by decide +kernel) (r_acons (r_var 3 (pv 3)) r_anil)) (r_acons (r_callTy call_tuple_of f_tuple rfl B.n_tuple (by decide +kernel) (r_acons (r_var 1 (pv 1)) r_anil)) r_anil))))))))
/-! ### law: 0 _law_script, 1 _law_some, 2 _law_k, 3 _law_feed_here, 4 _law_gate_here -/
def N_law : List Str := ["_law_script", "_law_some", "_law_k", "_law_feed_here", "_law_gate_here"]
theorem sc_law : FnScope N_law ["_law_script"] (defScope (top 17)) := ⟨rfl, rfl, rfl, by decide +kernel, rfl, by decide +kernel, by decide +kernel⟩
theorem tie_law {P : Program} {w : World} {K : PySem.W.Frag} {mg : Str → Option Value} {base : Heap} {cls : Nat → Value} {k : Nat} {m__law_feed : DF} {m__law_any_gate : DF} {m__law_draw : DF} {m__law_renumbered : DF} {m__law_alike : DF} {m__law_due : DF} {m_least_gate : DF} (B : Fr mg) {f : Addr} {fd : FuncData} (F : FunD K "law" "law" (defArgs (top 17)) (defBody (top 17)) (defScope (top 17)) [] [] f fd) (h__law_feed : Has P w K mg base cls k "_law_feed" ["_law_script", "_law_k"] m__law_feed) (h__law_any_gate : Has P w K mg base cls k "_law_any_gate" ["_law_feed_here", "_law_sides"] m__law_any_gate) (h__law_draw : Has P w K mg base cls k "_law_draw" ["_law_feed_here", "_law_many"] m__law_draw) (h__law_renumbered : Has P w K mg base cls k "_law_renumbered" ["_law_feed_here", "_law_gate_here"] m__law_renumbered) (h__law_alike : Has P w K mg base cls k "_law_alike" ["_law_told", "_law_due_here"] m__law_alike) (h__law_due : Has P w K mg base cls k "_law_due" ["_law_gate_here"] m__law_due) (h_least_gate : Has P w K mg base cls k "least_gate" ["gate"] m_least_gate) :
    FnG P w K mg base (L2.CX P w) (k + 1) f fd ["_law_script"] (sF ⟨K, cls, none⟩ (dDef 1 5 (den_law m__law_feed m__law_any_gate m__law_draw m__law_renumbered m__law_alike m__law_due m_least_gate))) := by
  have hN : N_law.Nodup := sc_law.nd
  refine GeG F sc_law (fun cdv A outer s H E hgd hr => ?_)
  exact (r_seq (r_set (i := 1) hN rfl (.inl rfl) (r_lst r_anil)) (r_seq (r_for (passes_of rfl) rfl (r_range1 rfl B.n_range (r_acons (r_callB (call_max2 rfl) f_max rfl B.n_max (by decide +kernel) (r_acons r_int (r_acons (r_callB (call_min2 rfl) f_min rfl B.n_min (by decide +kernel) (r_acons r_int (r_acons (r_callB c_len f_len rfl B.n_len (by decide +kernel) (r_acons (r_var 0 (pv 0)) r_anil)) r_anil))) r_anil))) r_anil)) (t_name (pg_name hN rfl (.inl rfl) (.inl rfl))) (r_seq (r_set (i := 3) hN rfl (.inl rfl) (r_callH h__law_feed hr rfl (takes_of rfl rfl rfl rfl) (r_acons (r_var 0 (pv 0)) (r_acons (r_var 2 (pv 2)) r_anil)))) (r_seq (r_set (i := 4) hN rfl (.inl rfl) (r_callH h__law_any_gate hr rfl (takes_of rfl rfl rfl rfl) (r_acons (r_var 3 (pv 3)) (r_acons (r_op o_add f_add r_int (r_callH h__law_draw hr rfl (takes_of rfl rfl rfl rfl) (r_acons (r_var 3 (pv 3)) (r_acons r_int r_anil)))) r_anil)))) (r_last (r_set (i := 1) hN rfl (.inl rfl) (r_op o_add f_add (r_var 1 (pv 1)) (r_lst (r_acons (r_var 4 (pv 4)) (r_acons (r_callH h__law_renumbered hr rfl (takes_of rfl rfl rfl rfl) (r_acons (r_var 3 (pv 3)) (r_acons (r_var 4 (pv 4)) r_anil))) r_anil))))))))) (r_seq (r_for (passes_of rfl) rfl (r_iter (r_op o_add f_add (r_var 1 (pv 1)) (r_sl (r_var 1 (pv 1)) r_noPart (r_part r_int)))) (t_name (pg_name hN rfl (.inl rfl) (.inl rfl))) (r_last (r_if (r_tnot (r_test (r_callH h__law_alike hr rfl (takes_of rfl rfl rfl rfl) (r_acons (r_callH h_least_gate hr rfl (takes_of rfl rfl rfl rfl) (r_acons (r_var 4 (pv 4)) r_anil)) (r_acons (r_callH h__law_due hr rfl (takes_of rfl rfl rfl rfl) (r_acons (r_var 4 (pv 4)) r_anil)) r_anil))))) (r_last (r_ret r_bl)) r_nil))) (r_last (r_ret r_bl)))))
end K42
set_option Elab.async false
set_option linter.all false
set_option maxRecDepth 100000
set_option maxHeartbeats 4000000
namespace K42
open PySem PySem.Spec PyProof.Rows L2 Dn
def d_numbered : He.DefD := ⟨("numbered", none), "numbered", "numbered", defArgs (top 1), defBody (top 1), defScope (top 1), [], []⟩
def d_parted_marks : He.DefD := ⟨("parted_marks", none), "parted_marks", "parted_marks", defArgs (top 2), defBody (top 2), defScope (top 2), [], []⟩
def d_least_gate : He.DefD := ⟨("least_gate", none), "least_gate", "least_gate", defArgs (top 3), defBody (top 3), defScope (top 3), [], []⟩
def d__law_feed : He.DefD := ⟨("_law_feed", none), "_law_feed", "_law_feed", defArgs (top 5), defBody (top 5), defScope (top 5), [], []⟩
def d__law_draw : He.DefD := ⟨("_law_draw", none), "_law_draw", "_law_draw", defArgs (top 6), defBody (top 6), defScope (top 6), [], []⟩
def d__law_mixed : He.DefD := ⟨("_law_mixed", none), "_law_mixed", "_law_mixed", defArgs (top 7), defBody (top 7), defScope (top 7), [], []⟩
def d__law_gate : He.DefD := ⟨("_law_gate", none), "_law_gate", "_law_gate", defArgs (top 8), defBody (top 8), defScope (top 8), [], []⟩
def d__law_alike : He.DefD := ⟨("_law_alike", none), "_law_alike", "_law_alike", defArgs (top 9), defBody (top 9), defScope (top 9), [], []⟩
def d__law_twinned : He.DefD := ⟨("_law_twinned", none), "_law_twinned", "_law_twinned", defArgs (top 10), defBody (top 10), defScope (top 10), [], []⟩
def d__law_street : He.DefD := ⟨("_law_street", none), "_law_street", "_law_street", defArgs (top 11), defBody (top 11), defScope (top 11), [], []⟩
def d__law_renumbered : He.DefD := ⟨("_law_renumbered", none), "_law_renumbered", "_law_renumbered", defArgs (top 12), defBody (top 12), defScope (top 12), [], []⟩
def d__law_ringed : He.DefD := ⟨("_law_ringed", none), "_law_ringed", "_law_ringed", defArgs (top 13), defBody (top 13), defScope (top 13), [], []⟩
def d__law_any_gate : He.DefD := ⟨("_law_any_gate", none), "_law_any_gate", "_law_any_gate", defArgs (top 14), defBody (top 14), defScope (top 14), [], []⟩
def d__law_led_marks : He.DefD := ⟨("_law_led_marks", none), "_law_led_marks", "_law_led_marks", defArgs (top 15), defBody (top 15), defScope (top 15), [], []⟩
def d__law_due : He.DefD := ⟨("_law_due", none), "_law_due", "_law_due", defArgs (top 16), defBody (top 16), defScope (top 16), [], []⟩
def d_law : He.DefD := ⟨("law", none), "law", "law", defArgs (top 17), defBody (top 17), defScope (top 17), [], []⟩
def fn : List He.DefD := [d_numbered, d_parted_marks, d_least_gate, d__law_feed, d__law_draw, d__law_mixed, d__law_gate, d__law_alike, d__law_twinned, d__law_street, d__law_renumbered, d__law_ringed, d__law_any_gate, d__law_led_marks, d__law_due, d_law]
def fa : List He.Fa := [.glo "numbered", .glo "parted_marks", .glo "least_gate", .glo "_law_feed", .glo "_law_draw", .glo "_law_mixed", .glo "_law_gate", .glo "_law_alike", .glo "_law_twinned", .glo "_law_street", .glo "_law_renumbered", .glo "_law_ringed", .glo "_law_any_gate", .glo "_law_led_marks", .glo "_law_due", .glo "law", .free "abs", .free "bool", .free "enumerate", .free "int", .free "isinstance", .free "len", .free "list", .free "max", .free "min", .free "range", .free "sorted", .free "str", .free "tuple", .free "zip"]
theorem facts {P : Program} {w : World} {K : PySem.W.Frag} {h : Heap} {mg : Str → Option Value} {f : Addr} (X : K.In h) (G : h.Ns mainGlobals mg) (hfa : mg ("law" : Str) = some (.ref f)) (c : He.SaysD fa fn K) (cls : Nat → Value) :
    ∃ fd : FuncData, (∀ (s : Shared) (v : Value), BindsTo s fd ⟨[v], []⟩ [("_law_script", v)]) ∧ ∀ base : Heap, K.In base → base.Ns mainGlobals mg → FnG P w K mg base (L2.CX P w) 6 f fd ["_law_script"] (sF ⟨K, cls, none⟩ (dDef 1 5 Pk.dLaw42)) := by
  have B : Fr mg := ⟨He.free_ok X G (c.fact 16 (f := .free "abs") rfl), He.free_ok X G (c.fact 17 (f := .free "bool") rfl), He.free_ok X G (c.fact 18 (f := .free "enumerate") rfl), He.free_ok X G (c.fact 19 (f := .free "int") rfl), He.free_ok X G (c.fact 20 (f := .free "isinstance") rfl), He.free_ok X G (c.fact 21 (f := .free "len") rfl), He.free_ok X G (c.fact 22 (f := .free "list") rfl), He.free_ok X G (c.fact 23 (f := .free "max") rfl), He.free_ok X G (c.fact 24 (f := .free "min") rfl), He.free_ok X G (c.fact 25 (f := .free "range") rfl), He.free_ok X G (c.fact 26 (f := .free "sorted") rfl), He.free_ok X G (c.fact 27 (f := .free "str") rfl), He.free_ok X G (c.fact 28 (f := .free "tuple") rfl), He.free_ok X G (c.fact 29 (f := .free "zip") rfl)⟩
  have g_numbered : Ge K mg "numbered" (top 1) := ⟨c.def_ 0 (d := d_numbered) rfl, He.glo_ok X G (c.fact 0 (f := .glo "numbered") rfl)⟩
  have g_parted_marks : Ge K mg "parted_marks" (top 2) := ⟨c.def_ 1 (d := d_parted_marks) rfl, He.glo_ok X G (c.fact 1 (f := .glo "parted_marks") rfl)⟩
  have g_least_gate : Ge K mg "least_gate" (top 3) := ⟨c.def_ 2 (d := d_least_gate) rfl, He.glo_ok X G (c.fact 2 (f := .glo "least_gate") rfl)⟩
  have g__law_feed : Ge K mg "_law_feed" (top 5) := ⟨c.def_ 3 (d := d__law_feed) rfl, He.glo_ok X G (c.fact 3 (f := .glo "_law_feed") rfl)⟩
  have g__law_draw : Ge K mg "_law_draw" (top 6) := ⟨c.def_ 4 (d := d__law_draw) rfl, He.glo_ok X G (c.fact 4 (f := .glo "_law_draw") rfl)⟩
  have g__law_mixed : Ge K mg "_law_mixed" (top 7) := ⟨c.def_ 5 (d := d__law_mixed) rfl, He.glo_ok X G (c.fact 5 (f := .glo "_law_mixed") rfl)⟩
  have g__law_gate : Ge K mg "_law_gate" (top 8) := ⟨c.def_ 6 (d := d__law_gate) rfl, He.glo_ok X G (c.fact 6 (f := .glo "_law_gate") rfl)⟩
  have g__law_alike : Ge K mg "_law_alike" (top 9) := ⟨c.def_ 7 (d := d__law_alike) rfl, He.glo_ok X G (c.fact 7 (f := .glo "_law_alike") rfl)⟩
  have g__law_twinned : Ge K mg "_law_twinned" (top 10) := ⟨c.def_ 8 (d := d__law_twinned) rfl, He.glo_ok X G (c.fact 8 (f := .glo "_law_twinned") rfl)⟩
  have g__law_street : Ge K mg "_law_street" (top 11) := ⟨c.def_ 9 (d := d__law_street) rfl, He.glo_ok X G (c.fact 9 (f := .glo "_law_street") rfl)⟩
  have g__law_renumbered : Ge K mg "_law_renumbered" (top 12) := ⟨c.def_ 10 (d := d__law_renumbered) rfl, He.glo_ok X G (c.fact 10 (f := .glo "_law_renumbered") rfl)⟩
  have g__law_ringed : Ge K mg "_law_ringed" (top 13) := ⟨c.def_ 11 (d := d__law_ringed) rfl, He.glo_ok X G (c.fact 11 (f := .glo "_law_ringed") rfl)⟩
  have g__law_any_gate : Ge K mg "_law_any_gate" (top 14) := ⟨c.def_ 12 (d := d__law_any_gate) rfl, He.glo_ok X G (c.fact 12 (f := .glo "_law_any_gate") rfl)⟩
  have g__law_led_marks : Ge K mg "_law_led_marks" (top 15) := ⟨c.def_ 13 (d := d__law_led_marks) rfl, He.glo_ok X G (c.fact 13 (f := .glo "_law_led_marks") rfl)⟩
  have g__law_due : Ge K mg "_law_due" (top 16) := ⟨c.def_ 14 (d := d__law_due) rfl, He.glo_ok X G (c.fact 14 (f := .glo "_law_due") rfl)⟩
  obtain ⟨fd, F⟩ := c.def_ 15 (d := d_law) rfl
  have e := hfa.symm.trans (He.glo_ok X G (c.fact 15 (f := .glo "law") rfl))
  cases e
  have b := FunD.bindsA (ps := ["_law_script"]) F fun _ _ _ _ _ _ us hl => match us, hl with | [_], _ => rfl
  refine ⟨fd, fun s v => b s [v] rfl, fun base _ _ => ?_⟩
  have h_numbered : Has P w K mg base cls 1 "numbered" ["things"] Pk.FNumbered := tie_numbered (P := P) (w := w) (base := base) (cls := cls) (k := 0) B g_numbered 
  have h_parted_marks : Has P w K mg base cls 2 "parted_marks" ["gate"] Pk.FPart := tie_parted_marks (P := P) (w := w) (base := base) (cls := cls) (k := 1) B g_parted_marks (h_numbered.mono (by decide))
  have h_least_gate : Has P w K mg base cls 3 "least_gate" ["gate"] Pk.FLeast := (tie_least_gate (P := P) (w := w) (base := base) (cls := cls) (k := 2) B g_least_gate (h_parted_marks.mono (by decide))).trim fun xs st hw _ => Pn.trimF_tr _ xs st hw
  have h__law_feed : Has P w K mg base cls 1 "_law_feed" ["_law_script", "_law_k"] Pw.FFeed := tie__law_feed (P := P) (w := w) (base := base) (cls := cls) (k := 0) B g__law_feed 
  have h__law_draw : Has P w K mg base cls 1 "_law_draw" ["_law_feed_here", "_law_many"] Pn.FTake := (tie__law_draw (P := P) (w := w) (base := base) (cls := cls) (k := 0) B g__law_draw ).trim fun xs st hw _ => Pn.trimF_tr _ xs st hw
  have h__law_mixed : Has P w K mg base cls 2 "_law_mixed" ["_law_feed_here", "_law_some"] Pw.FMixed := tie__law_mixed (P := P) (w := w) (base := base) (cls := cls) (k := 1) B g__law_mixed (h__law_draw.mono (by decide))
  have h__law_gate : Has P w K mg base cls 3 "_law_gate" ["_law_feed_here", "_law_sides", "_law_marks"] Pw.FGate4 := (tie__law_gate (P := P) (w := w) (base := base) (cls := cls) (k := 2) B g__law_gate (h__law_draw.mono (by decide)) (h__law_mixed.mono (by decide))).trim fun xs st hw _ => Pn.trimF_tr _ xs st hw
  have h__law_alike : Has P w K mg base cls 1 "_law_alike" ["_law_told", "_law_due_here"] Pw.FAlike4 := (tie__law_alike (P := P) (w := w) (base := base) (cls := cls) (k := 0) B g__law_alike ).trim fun xs st hw _ => Pn.trimF_tr _ xs st hw
  have h__law_twinned : Has P w K mg base cls 4 "_law_twinned" ["_law_feed_here", "_law_sides"] Pw.FTwin := (tie__law_twinned (P := P) (w := w) (base := base) (cls := cls) (k := 3) B g__law_twinned (h__law_draw.mono (by decide)) (h__law_mixed.mono (by decide)) (h__law_gate.mono (by decide))).trim fun xs st hw _ => Pn.trimF_tr _ xs st hw
  have h__law_street : Has P w K mg base cls 1 "_law_street" ["_law_one", "_law_mark", "_law_other", "_law_its"] Pk.FStreet := (tie__law_street (P := P) (w := w) (base := base) (cls := cls) (k := 0) B g__law_street ).trim fun xs st hw _ => Pn.trimF_tr _ xs st hw
  have h__law_renumbered : Has P w K mg base cls 3 "_law_renumbered" ["_law_feed_here", "_law_gate_here"] Pw.FRenum := (tie__law_renumbered (P := P) (w := w) (base := base) (cls := cls) (k := 2) B g__law_renumbered (h__law_mixed.mono (by decide))).trim fun xs st hw _ => Pn.trimF_tr _ xs st hw
  have h__law_ringed : Has P w K mg base cls 4 "_law_ringed" ["_law_feed_here", "_law_sides"] Pw.FRing := (tie__law_ringed (P := P) (w := w) (base := base) (cls := cls) (k := 3) B g__law_ringed (h__law_draw.mono (by decide)) (h__law_renumbered.mono (by decide))).trim fun xs st hw _ => Pn.trimF_tr _ xs st hw
  have h__law_any_gate : Has P w K mg base cls 5 "_law_any_gate" ["_law_feed_here", "_law_sides"] Pw.FAny4 := (tie__law_any_gate (P := P) (w := w) (base := base) (cls := cls) (k := 4) B g__law_any_gate (h__law_draw.mono (by decide)) (h__law_twinned.mono (by decide)) (h__law_ringed.mono (by decide)) (h__law_gate.mono (by decide))).trim fun xs st hw _ => Pn.trimF_tr _ xs st hw
  have h__law_led_marks : Has P w K mg base cls 2 "_law_led_marks" ["_law_gate_here"] Pk.FLedM := tie__law_led_marks (P := P) (w := w) (base := base) (cls := cls) (k := 1) B g__law_led_marks (h__law_street.mono (by decide))
  have h__law_due : Has P w K mg base cls 3 "_law_due" ["_law_gate_here"] Pk.FDue4 := (tie__law_due (P := P) (w := w) (base := base) (cls := cls) (k := 2) B g__law_due (h__law_led_marks.mono (by decide))).trim fun xs st hw _ => Pn.trimF_tr _ xs st hw
  exact tie_law (P := P) (w := w) (base := base) (cls := cls) (k := 5) B F (h__law_feed.mono (by decide)) (h__law_any_gate.mono (by decide)) (h__law_draw.mono (by decide)) (h__law_renumbered.mono (by decide)) (h__law_alike.mono (by decide)) (h__law_due.mono (by decide)) (h_least_gate.mono (by decide))
abbrev R : PySem.W.OpenRow := PySem.W.OpenLaw.row PySem.Challenge.rw_keptgates_k42_least_gates
abbrev hk : PySem.W.Hook := He.hookD 4 fa fn
def ob (s : PySem.W.SharedT) : He.AlD := He.obsDG 4 fa fn (HandSHeadRun.getT s)
theorem ob_eq (s : PySem.W.SharedT) : ob s = hk.obs s.abs := He.obsDG_eq (HandSHeadRun.getT_eq s)
def loose : List PySem.Str := ["numbered", "parted_marks", "least_gate", "_law_feed", "_law_draw", "_law_mixed", "_law_gate", "_law_alike", "_law_twinned", "_law_street", "_law_renumbered", "_law_ringed", "_law_any_gate", "_law_led_marks", "_law_due"]
theorem run (w : World) : HandSHeadRun.RunEq R (PySem.W.view R.prog [17]) hk ob 8000 loose w := by
  intro os
  kernel_rfl
end K42
open PySem PySem.W PySem.Calls PyProof.Rows
set_option maxRecDepth 100000 in
set_option maxHeartbeats 0 in
theorem PySem.Challenge.cw_keptgates_k42_least_gates_holds : PySem.Challenge.rw_keptgates_k42_least_gates.Holds := by
  w_on; o_law
  refine HandSHeadRun.head_any (r := OpenLaw.row PySem.Challenge.rw_keptgates_k42_least_gates) (q := view (OpenLaw.row PySem.Challenge.rw_keptgates_k42_least_gates).prog [17]) (H := K42.hk) (ob := K42.ob) (M := 8000) (loose := K42.loose) (d := HandSHeadRun.topDef (OpenLaw.row PySem.Challenge.rw_keptgates_k42_least_gates).prog 17) (kwd := []) K42.ob_eq
    (by kernel_rfl) (fun s => by kernel_rfl) K42.run (by kernel_rfl) (by kernel_rfl) (by kernel_rfl) (by rfl) (by first | assumption | decide +kernel) (by decide +kernel) ⟨rfl, rfl, rfl, rfl, rfl, by decide +kernel⟩ ?hw ?hc
  case hw => w_witness2
  case hc =>
    refine Dn.walkG (l := PySem.Challenge.rw_keptgates_k42_least_gates) (n := 63) (k := 6) (x := "_law_script") rfl (by decide) (by kernel_rfl) ⟨rfl, by decide, by decide⟩ ?F
    intro w mg fa h Y G hmg0
    obtain ⟨K, KX, c⟩ := Y
    have hmg : mg ("law" : PySem.Str) = some (.ref fa) := by
      have e : (HandSHeadRun.topDef (OpenLaw.row PySem.Challenge.rw_keptgates_k42_least_gates).prog 17).name = ("law" : PySem.Str) := by kernel_rfl
      rw [← e]
      exact hmg0
    obtain ⟨fd, hb, hF⟩ := K42.facts (P := (PySem.Challenge.rw_keptgates_k42_least_gates).prog) (w := w) KX G hmg c (fun _ => .none)
    refine ⟨K, fd, _, KX, hb, fun H a ns hl hO hS => ?_, hF⟩
    obtain ⟨st', e⟩ := Pk.law42 (ns := ns) (by omega)
    exact Dn.sF_law hO hS e
