import PyProof.Rows.All
import Wide.All
import OpenK.AllK
import Wide.FinOn
import PySem.Challenge.RW_nn0194_01
open PySem PySem.W PyProof.Rows
set_option Elab.async false
set_option linter.unusedVariables false
set_option maxRecDepth 100000
namespace Mine

/-- abstract data -/
inductive D where
  | none
  | bool (b : Bool)
  | int (i : Int)
  | str (x : Str)
  | bytes (ns : List Int)
  | tup (ds : List D)
  | lst (ds : List D)
  | sdct (ks : List Str) (ds : List D)
  | tdct (ks : List (List Int)) (ds : List D)
  | cmap (sp ch : D)
  | rng (a b c : Int)
  | own (i : Nat)

inductive OO where
  | lst (ds : List D)
  | sdct (ks : List Str) (ds : List D)
  | tdct (ks : List (List Int)) (ds : List D)
  | dead

structure St where
  loc : Str → Option D
  own : List OO

def St.set (σ : St) (x : Str) (d : D) : St := { σ with loc := fun y => if y = x then some d else σ.loc y }

structure Gh where
  z : Addr → Prop
  al : List Addr

/-- the text, the world, the class of maps -/
structure Wd where
  prog : Program
  w : World
  cm : Addr
/-- what is fixed while one frame runs -/
structure Cx extends Wd where
  A : Around
  env : Env
  base : Heap
  mu : List Addr
  k : Nat
  mg : Str → Option Value
  mb : Str → Option Value
  recs : List DefRec
  K : Frag
  lv : Nat

section
variable (Γ : Wd) (h : Heap) (Z : Addr → Prop)
mutual
noncomputable def Rep : D → Value → Prop
  | .none, v => v = .none
  | .bool b, v => v = .bool b
  | .int i, v => ∃ t, v = .int i t
  | .str x, v => ∃ t, v = .str x t
  | .bytes ns, v => ∃ b t, v = .bytes b t ∧ KBw.bInts b = ns
  | .tup ds, v => ∃ a vs, v = .ref a ∧ Z a ∧ h.IsTuple a vs.toArray ∧ Reps ds vs
  | .lst ds, v => ∃ a vs, v = .ref a ∧ Z a ∧ h.IsList a vs.toArray ∧ Reps ds vs
  | .sdct ks ds, v => ∃ a kvs, v = .ref a ∧ Z a ∧ (a == sysModules) = false ∧ h.DictOf (PySem.strKind Γ.prog Γ.w) a kvs ∧ kvs.map (·.1) = ks ∧ Reps ds (kvs.map (·.2))
  | .tdct ks ds, v => ∃ a xs, v = .ref a ∧ Z a ∧ (a == sysModules) = false ∧ h.DictOfH (tupleKind (PySem.intKind Γ.prog Γ.w)) a xs ∧ xs.map (·.1) = ks ∧ (∀ x ∈ xs, Z x.2.1) ∧ Reps ds (xs.map (·.2.2))
  | .cmap sp ch, v => ∃ x dx vsp vch sl h1 h2 t1 t2 n, v = .ref x ∧ Z x ∧ Z dx ∧ h.get? x = some ⟨.ref Γ.cm, some dx, .plain, sl⟩ ∧
      h.get? dx = some (dictOf [⟨h1, .str (Str.ofString "spaces") t1, vsp⟩, ⟨h2, .str (Str.ofString "chars") t2, vch⟩] n) ∧ Rep sp vsp ∧ Rep ch vch
  | .rng a b c, v => ∃ r t u w, v = .ref r ∧ Z r ∧ IsRange h r a b c t u w
  | .own _, _ => False
noncomputable def Reps : List D → List Value → Prop
  | [], vs => vs = []
  | d :: ds, vs => ∃ v ws, vs = v :: ws ∧ Rep d v ∧ Reps ds ws
end
end

structure KeepZ (Z : Addr → Prop) (h h' : Heap) : Prop where
  k : ∀ a o, Z a → h.get? a = some o → h'.get? a = some o

section
variable {Γ : Wd} {h h' : Heap} {Z Z' : Addr → Prop}
theorem isTupleKey_keep {K : Type} [DecidableEq K] {knd : KeyKind Γ.prog Γ.w K} {ks : List K} {a : Addr} (x : IsTupleKey knd h ks a) (k : ∀ o, h.get? a = some o → h'.get? a = some o) : IsTupleKey knd h' ks a :=
  by obtain ⟨o, items, n, e, r⟩ := x; exact ⟨o, items, n, k o e, r⟩
theorem dictOf_keep {K : Type} [DecidableEq K] {knd : KeyKind Γ.prog Γ.w K} {a : Addr} {kvs : List (K × Value)} (x : h.DictOf knd a kvs) (k : ∀ o, h.get? a = some o → h'.get? a = some o) : h'.DictOf knd a kvs :=
  by obtain ⟨o, es, ep, e, r⟩ := x; exact ⟨o, es, ep, k o e, r⟩
theorem dictOfH_keep {a : Addr} {xs : List (List Int × Addr × Value)} (x : h.DictOfH (tupleKind (PySem.intKind Γ.prog Γ.w)) a xs) (k : ∀ o, h.get? a = some o → h'.get? a = some o)
    (kk : ∀ x ∈ xs, ∀ o, h.get? x.2.1 = some o → h'.get? x.2.1 = some o) : h'.DictOfH (tupleKind (PySem.intKind Γ.prog Γ.w)) a xs :=
  by obtain ⟨o, es, ep, e, h1, h2, h3, h4, h5⟩ := x; exact ⟨o, es, ep, k o e, h1, h2, h3, fun x hx => isTupleKey_keep (h4 x hx) (kk x hx), h5⟩
theorem isTuple_keep {a : Addr} {its : Array Value} (x : h.IsTuple a its) (k : ∀ o, h.get? a = some o → h'.get? a = some o) : h'.IsTuple a its :=
  by obtain ⟨o, e, r⟩ := x; exact ⟨o, k o e, r⟩
theorem isList_keep {a : Addr} {its : Array Value} (x : h.IsList a its) (k : ∀ o, h.get? a = some o → h'.get? a = some o) : h'.IsList a its :=
  by obtain ⟨o, e, r⟩ := x; exact ⟨o, k o e, r⟩

mutual
theorem Rep.mono (hz : ∀ a, Z a → Z' a) (hk : ∀ a o, Z a → h.get? a = some o → h'.get? a = some o) : ∀ (d : D) {v : Value}, Rep Γ h Z d v → Rep Γ h' Z' d v
  | .none, _, r => r
  | .bool _, _, r => r
  | .int _, _, r => r
  | .str _, _, r => r
  | .bytes _, _, r => r
  | .tup ds, _, r => by
    unfold Rep at r ⊢
    obtain ⟨a, vs, rfl, za, ht, rs⟩ := r
    exact ⟨a, vs, rfl, hz a za, isTuple_keep ht fun o => hk a o za, Reps.mono hz hk ds rs⟩
  | .lst ds, _, r => by
    unfold Rep at r ⊢
    obtain ⟨a, vs, rfl, za, ht, rs⟩ := r
    exact ⟨a, vs, rfl, hz a za, isList_keep ht fun o => hk a o za, Reps.mono hz hk ds rs⟩
  | .sdct ks ds, _, r => by
    unfold Rep at r ⊢
    obtain ⟨a, kvs, rfl, za, hs, hd, e, rs⟩ := r
    exact ⟨a, kvs, rfl, hz a za, hs, dictOf_keep hd fun o => hk a o za, e, Reps.mono hz hk ds rs⟩
  | .tdct ks ds, _, r => by
    unfold Rep at r ⊢
    obtain ⟨a, xs, rfl, za, hs, hd, e, zx, rs⟩ := r
    exact ⟨a, xs, rfl, hz a za, hs, dictOfH_keep hd (fun o => hk a o za) (fun x hx o => hk _ o (zx x hx)), e, fun x hx => hz _ (zx x hx), Reps.mono hz hk ds rs⟩
  | .cmap sp ch, _, r => by
    unfold Rep at r ⊢
    obtain ⟨x, dx, vsp, vch, sl, h1, h2, t1, t2, n, rfl, zx, zd, e1, e2, r1, r2⟩ := r
    exact ⟨x, dx, vsp, vch, sl, h1, h2, t1, t2, n, rfl, hz _ zx, hz _ zd, hk _ _ zx e1, hk _ _ zd e2, Rep.mono hz hk sp r1, Rep.mono hz hk ch r2⟩
  | .rng a b c, _, r => by
    unfold Rep at r ⊢
    obtain ⟨x, t, u, w, rfl, zx, e⟩ := r
    exact ⟨x, t, u, w, rfl, hz _ zx, hk _ _ zx e⟩
  | .own _, _, r => by unfold Rep at r; exact r.elim
theorem Reps.mono (hz : ∀ a, Z a → Z' a) (hk : ∀ a o, Z a → h.get? a = some o → h'.get? a = some o) : ∀ (ds : List D) {vs : List Value}, Reps Γ h Z ds vs → Reps Γ h' Z' ds vs
  | [], _, r => r
  | d :: ds, _, r => by
    unfold Reps at r ⊢
    obtain ⟨v, ws, rfl, r1, r2⟩ := r
    exact ⟨v, ws, rfl, Rep.mono hz hk d r1, Reps.mono hz hk ds r2⟩
end

theorem Reps.length : ∀ {ds : List D} {vs : List Value}, Reps Γ h Z ds vs → vs.length = ds.length
  | [], _, r => by unfold Reps at r; subst r; rfl
  | d :: ds, _, r => by unfold Reps at r; obtain ⟨v, ws, rfl, _, r2⟩ := r; simp [Reps.length r2]
theorem Reps.append : ∀ {ds es : List D} {vs ws : List Value}, Reps Γ h Z ds vs → Reps Γ h Z es ws → Reps Γ h Z (ds ++ es) (vs ++ ws)
  | [], _, _, _, r, q => by unfold Reps at r; subst r; exact q
  | d :: ds, _, _, _, r, q => by unfold Reps at r; obtain ⟨v, ws, rfl, r1, r2⟩ := r; exact ⟨v, _, rfl, r1, Reps.append r2 q⟩
theorem Reps.nil : Reps Γ h Z [] [] := rfl
theorem Reps.cons {d : D} {ds : List D} {v : Value} {vs : List Value} (r : Rep Γ h Z d v) (rs : Reps Γ h Z ds vs) : Reps Γ h Z (d :: ds) (v :: vs) := ⟨v, vs, rfl, r, rs⟩
theorem Reps.one {d : D} {v : Value} (r : Rep Γ h Z d v) : Reps Γ h Z [d] [v] := ⟨v, [], rfl, r, rfl⟩
theorem Reps.get : ∀ {ds : List D} {vs : List Value}, Reps Γ h Z ds vs → ∀ {i : Nat} {d : D}, ds[i]? = some d → ∃ v, vs[i]? = some v ∧ Rep Γ h Z d v
  | [], _, _, i, d, e => by simp at e
  | d :: ds, _, r, i, e, he => by
    unfold Reps at r; obtain ⟨v, ws, rfl, r1, r2⟩ := r
    cases i with
    | zero => simp at he; subst he; exact ⟨v, rfl, r1⟩
    | succ i => simp at he; obtain ⟨u, hu, ru⟩ := Reps.get r2 he; exact ⟨u, by simpa using hu, ru⟩
theorem Reps.drop : ∀ {ds : List D} {vs : List Value} (n : Nat), Reps Γ h Z ds vs → Reps Γ h Z (ds.drop n) (vs.drop n)
  | ds, vs, 0, r => r
  | [], _, n + 1, r => by unfold Reps at r; subst r; exact rfl
  | d :: ds, _, n + 1, r => by unfold Reps at r; obtain ⟨v, ws, rfl, _, r2⟩ := r; exact Reps.drop n r2
theorem Reps.take : ∀ {ds : List D} {vs : List Value} (n : Nat), Reps Γ h Z ds vs → Reps Γ h Z (ds.take n) (vs.take n)
  | ds, vs, 0, r => by simp; exact rfl
  | [], _, n + 1, r => by unfold Reps at r; subst r; exact rfl
  | d :: ds, _, n + 1, r => by unfold Reps at r; obtain ⟨v, ws, rfl, r1, r2⟩ := r; exact ⟨v, _, rfl, r1, Reps.take n r2⟩
theorem Reps.set : ∀ {ds : List D} {vs : List Value} {d : D} {v : Value} (n : Nat), Reps Γ h Z ds vs → Rep Γ h Z d v → Reps Γ h Z (ds.set n d) (vs.set n v)
  | [], _, _, _, n, r, _ => by unfold Reps at r; subst r; exact rfl
  | e :: ds, _, _, _, 0, r, q => by unfold Reps at r; obtain ⟨u, ws, rfl, r1, r2⟩ := r; exact ⟨_, ws, rfl, q, r2⟩
  | e :: ds, _, _, _, n + 1, r, q => by unfold Reps at r; obtain ⟨u, ws, rfl, r1, r2⟩ := r; exact ⟨u, _, rfl, r1, Reps.set n r2 q⟩
end

/-- an int list's items -/
theorem Reps.ints {Γ : Wd} {h : Heap} {Z : Addr → Prop} : ∀ {ns : List Int} {vs : List Value}, Reps Γ h Z (ns.map D.int) vs → IntsAre vs ns
  | [], _, r => by unfold Reps at r; subst r; exact .nil
  | n :: ns, _, r => by
    rw [List.map_cons] at r; unfold Reps at r; obtain ⟨v, ws, rfl, r1, r2⟩ := r
    unfold Rep at r1; obtain ⟨t, rfl⟩ := r1
    exact .cons _ _ (Reps.ints r2)
theorem Reps.ofInts {Γ : Wd} {h : Heap} {Z : Addr → Prop} : ∀ {ns : List Int} {vs : List Value}, IntsAre vs ns → Reps Γ h Z (ns.map D.int) vs
  | _, _, .nil => rfl
  | _, _, .cons _ _ r => ⟨_, _, rfl, ⟨_, rfl⟩, Reps.ofInts r⟩
end Mine

namespace Mine

def RepV (Γ : Wd) (g : Gh) (h : Heap) : D → Value → Prop
  | .own i, v => ∃ a : Addr, g.al[i]? = some a ∧ v = .ref a
  | d, v => Rep Γ h g.z d v

def OwnRep (Γ : Wd) (h : Heap) (Z : Addr → Prop) (a : Addr) : OO → Prop
  | .lst ds => ∃ vs, h.PlainList a vs.toArray ∧ Reps Γ h Z ds vs
  | .sdct ks ds => ∃ kvs, (a == sysModules) = false ∧ h.DictOf (PySem.strKind Γ.prog Γ.w) a kvs ∧ kvs.map (·.1) = ks ∧ Reps Γ h Z ds (kvs.map (·.2))
  | .tdct ks ds => ∃ xs, (a == sysModules) = false ∧ h.DictOfH (tupleKind (PySem.intKind Γ.prog Γ.w)) a xs ∧ xs.map (·.1) = ks ∧ (∀ x ∈ xs, Z x.2.1) ∧ Reps Γ h Z ds (xs.map (·.2.2))
  | .dead => True

def VarAt (Γ : Cx) (h : Heap) (m : Str → Option Value) (x : Str) (v : Value) : Prop :=
  (Γ.env.kindOf x = some .local ∧ m x = some v) ∨ (Γ.env.kindOf x = some .cell ∧ ∃ c, Γ.env.cells.lookup x = some c ∧ h.IsCell c (some v))

structure CxOk (Γ : Cx) : Prop where
  kind : Γ.env.scope.kind = .function
  glob : Γ.env.globals = mainGlobals
  bi : Γ.env.builtins = builtinsNs
  locMu : Γ.env.locals ∈ Γ.mu
  cellL : ∀ x c, Γ.env.cells.lookup x = some c → c ≠ Γ.env.locals
  inj : ∀ x y c, Γ.env.cells.lookup x = some c → Γ.env.cells.lookup y = some c → x = y
  full : ∀ x, Γ.env.kindOf x = some .cell → ∃ c, Γ.env.cells.lookup x = some c
  hd : Γ.A.handled = none
  un : Γ.A.units + 200 + 10 * Γ.lv ≤ cLine
  dp : Γ.A.depth + Γ.lv < recursionLimit
  g : Γ.base.Ns mainGlobals Γ.mg
  b : Γ.base.Ns builtinsNs Γ.mb
  lim : Γ.base.NoLimit
  fn : ∀ d ∈ Γ.recs, ∃ a o pm cd doc, Γ.mg d.name = some (.ref a) ∧ Γ.base.get? a = some o ∧ o.data = .func (Calls.docDef d.name d.params d.body d.scope pm cd doc) ∧ Γ.base.CodeRec cd d.name
  kin : Γ.K.In Γ.base

structure At (Γ : Cx) (g : Gh) (σ : St) (h : Heap) : Prop where
  ok : CxOk Γ
  keep : ∀ b o, Γ.base.get? b = some o → h.get? b = some o
  loc : ∃ m, h.Ns Γ.env.locals m ∧ ∀ x d, σ.loc x = some d → ∃ v, VarAt Γ h m x v ∧ RepV Γ.toWd g h d v
  cel : ∀ x c, Γ.env.cells.lookup x = some c → ∃ ov, h.IsCell c ov
  len : g.al.length = σ.own.length
  own : ∀ (i : Nat) (o : OO), σ.own[i]? = some o → ∃ a : Addr, g.al[i]? = some a ∧ OwnRep Γ.toWd h g.z a o ∧ (o ≠ .dead → ¬ g.z a)
  nd : g.al.Nodup
  mz : ∀ a ∈ Γ.mu, ¬ g.z a ∧ a ∉ g.al
  lo : ∀ a, a ∈ g.al ∨ a ∈ Γ.mu → Γ.base.get? a = none
  up : ∀ a, g.z a ∨ a ∈ g.al ∨ a ∈ Γ.mu → (h.get? a).isSome = true
  cz : ∀ x c, Γ.env.cells.lookup x = some c → ¬ g.z c ∧ c ∉ g.al

structure Tr (Γ : Cx) (g : Gh) (h : Heap) (g' : Gh) (h' : Heap) : Prop where
  z : ∀ a, g.z a → g'.z a
  al : ∃ new, g'.al = g.al ++ new ∧ ∀ a ∈ new, h.get? a = none
  fz : ∀ a, g'.z a → g.z a ∨ h.get? a = none ∨ ∃ i : Nat, Γ.k ≤ i ∧ g.al[i]? = some a
  kz : ∀ a o, g.z a → h.get? a = some o → h'.get? a = some o
  kp : ∀ a o, a ∉ Γ.mu → a ∉ g.al → h.get? a = some o → h'.get? a = some o
  lv : ∀ a, (h.get? a).isSome = true → (h'.get? a).isSome = true

theorem Tr.refl (Γ : Cx) (g : Gh) (h : Heap) : Tr Γ g h g h :=
  ⟨fun _ z => z, ⟨[], by simp, by simp⟩, fun _ z => .inl z, fun _ _ _ e => e, fun _ _ _ _ e => e, fun _ e => e⟩

theorem none_back {h h' : Heap} (lv : ∀ a, (h.get? a).isSome = true → (h'.get? a).isSome = true) {a : Addr} (e : h'.get? a = none) : h.get? a = none := by
  cases q : h.get? a with
  | none => rfl
  | some o => have := lv a (by rw [q]; rfl); rw [e] at this; cases this

theorem Tr.trans {Γ : Cx} {g g' g'' : Gh} {h h' h'' : Heap} (a : Tr Γ g h g' h') (b : Tr Γ g' h' g'' h'') : Tr Γ g h g'' h'' := by
  obtain ⟨n1, e1, l1⟩ := a.al
  obtain ⟨n2, e2, l2⟩ := b.al
  refine ⟨fun x zx => b.z _ (a.z _ zx), ⟨n1 ++ n2, by rw [e2, e1, List.append_assoc], ?_⟩, ?_, fun x o zx e => b.kz _ _ (a.z _ zx) (a.kz _ _ zx e), ?_, fun x e => b.lv x (a.lv x e)⟩
  · intro x hx
    rcases List.mem_append.mp hx with hx | hx
    · exact l1 x hx
    · exact none_back a.lv (l2 x hx)
  · intro x hx
    rcases b.fz x hx with q | q | ⟨i, hi, q⟩
    · exact a.fz x q
    · exact .inr (.inl (none_back a.lv q))
    · rw [e1] at q
      by_cases hl : i < g.al.length
      · rw [List.getElem?_append_left hl] at q; exact .inr (.inr ⟨i, hi, q⟩)
      · rw [List.getElem?_append_right (Nat.le_of_not_lt hl)] at q
        exact .inr (.inl (l1 x (List.mem_of_getElem? q)))
  · intro x o hm ha e
    refine b.kp x o hm ?_ (a.kp x o hm ha e)
    rw [e1]
    intro hx
    rcases List.mem_append.mp hx with hx | hx
    · exact ha hx
    · have := l1 x hx; rw [e] at this; cases this

theorem RepV.tr {Γ : Cx} {g g' : Gh} {h h' : Heap} {d : D} {v : Value} (t : Tr Γ g h g' h') (r : RepV Γ.toWd g h d v) : RepV Γ.toWd g' h' d v := by
  cases d with
  | own i =>
    obtain ⟨a, e, rfl⟩ := r
    obtain ⟨n1, e1, _⟩ := t.al
    refine ⟨a, ?_, rfl⟩
    have hl : i < g.al.length := (List.getElem?_eq_some_iff.mp e).1
    rw [e1, List.getElem?_append_left hl]; exact e
  | _ => exact Rep.mono t.z t.kz _ r

theorem RepV.rep {Γ : Cx} {g : Gh} {h : Heap} {d : D} {v : Value} (r : RepV Γ.toWd g h d v) (hd : ∀ i, d ≠ .own i) : Rep Γ.toWd h g.z d v := by
  cases d with
  | own i => exact absurd rfl (hd i)
  | _ => exact r
theorem RepV.of {Γ : Cx} {g : Gh} {h : Heap} {d : D} {v : Value} (r : Rep Γ.toWd h g.z d v) : RepV Γ.toWd g h d v := by
  cases d with
  | own i => unfold Rep at r; exact r.elim
  | _ => exact r

/-- the heap moves where nothing of this state lies (pushes, iterators, frames of callees) -/
theorem At.move {Γ : Cx} {g : Gh} {σ : St} {h h' : Heap} (a : At Γ g σ h) (hk : ∀ b o, h.get? b = some o → h'.get? b = some o) : At Γ g σ h' where
  ok := a.ok
  keep := fun b o e => hk b o (a.keep b o e)
  loc := by
    obtain ⟨m, hn, hl⟩ := a.loc
    refine ⟨m, hn.keeps hk, fun x d hx => ?_⟩
    obtain ⟨v, hv, r⟩ := hl x d hx
    refine ⟨v, hv.imp id (fun ⟨k, c, hc, hv⟩ => ⟨k, c, hc, hv.keeps hk⟩), ?_⟩
    cases d with
    | own i => exact r
    | _ => exact Rep.mono (fun _ z => z) (fun b o _ e => hk b o e) _ r
  cel := fun x c hc => let ⟨ov, ho⟩ := a.cel x c hc; ⟨ov, ho.keeps hk⟩
  len := a.len
  own := by
    intro i o hi
    obtain ⟨b, hb, r, z⟩ := a.own i o hi
    refine ⟨b, hb, ?_, z⟩
    cases o with
    | lst ds => obtain ⟨vs, hp, r⟩ := r; exact ⟨vs, hp.at fun o e => hk _ _ e, Reps.mono (fun _ z => z) (fun b o _ e => hk b o e) _ r⟩
    | sdct ks ds => obtain ⟨kvs, s, hp, e, r⟩ := r; exact ⟨kvs, s, dictOf_keep hp fun o e => hk _ _ e, e, Reps.mono (fun _ z => z) (fun b o _ e => hk b o e) _ r⟩
    | tdct ks ds => obtain ⟨xs, s, hp, e, zx, r⟩ := r; exact ⟨xs, s, dictOfH_keep hp (fun o e => hk _ _ e) (fun x _ o e => hk _ _ e), e, zx, Reps.mono (fun _ z => z) (fun b o _ e => hk b o e) _ r⟩
    | dead => trivial
  nd := a.nd
  mz := a.mz
  lo := a.lo
  up := fun b hb => by
    obtain ⟨o, e⟩ := Option.isSome_iff_exists.mp (a.up b hb)
    rw [hk b o e]; rfl
  cz := a.cz

inductive PostE (Γ : Cx) (g : Gh) (s : Shared) (Q : D → St → Prop) (v : Value) (s' : Shared) : Prop
  | mk (g' : Gh) (σ' : St) (d : D) (h' : Heap) (tk : Nat) (e : s' = { s with heap := h', toks := tk }) (t : Tr Γ g s.heap g' h') (a : At Γ g' σ' h') (r : RepV Γ.toWd g' h' d v) (q : Q d σ')

def NoE : Value → Shared → Prop := fun _ _ => False

def WE (Γ : Cx) (e : Expr) (Q : D → St → Prop) (σ : St) : Prop :=
  ∀ g s, At Γ g σ s.heap → wpAny (model Γ.prog Γ.w) Γ.A (eval e Γ.env) (PostE Γ g s Q) NoE s

/-- lists of expressions, in order -/
abbrev QPre (d : D) (Q : List D → St → Prop) (ds : List D) (σ : St) : Prop := Q (d :: ds) σ
noncomputable def WEs (Γ : Cx) : List Expr → (List D → St → Prop) → St → Prop
  | [], Q, σ => Q [] σ
  | e :: es, Q, σ => WE Γ e (fun d σ₁ => WEs Γ es (QPre d Q) σ₁) σ

inductive PostT (Γ : Cx) (g : Gh) (s : Shared) (Q : Bool → St → Prop) (b : Bool) (s' : Shared) : Prop
  | mk (g' : Gh) (σ' : St) (h' : Heap) (tk : Nat) (e : s' = { s with heap := h', toks := tk }) (t : Tr Γ g s.heap g' h') (a : At Γ g' σ' h') (q : Q b σ')

def WT (Γ : Cx) (e : Expr) (Q : Bool → St → Prop) (σ : St) : Prop :=
  ∀ g s, At Γ g σ s.heap → wpAny (model Γ.prog Γ.w) Γ.A (isTrue e Γ.env (eval e Γ.env)) (PostT Γ g s Q) NoE s

inductive Out where
  | next | brk | cont
  | ret (d : D)

def FlowIs (Γ : Cx) (g : Gh) (h : Heap) : Out → Flow → Prop
  | .next, f => f = .next
  | .brk, f => f = .brk
  | .cont, f => f = .cont
  | .ret d, f => ∃ v, f = .ret v ∧ RepV Γ.toWd g h d v

inductive PostS (Γ : Cx) (g : Gh) (s : Shared) (Q : Out → St → Prop) (f : Flow) (s' : Shared) : Prop
  | mk (g' : Gh) (σ' : St) (o : Out) (h' : Heap) (tk : Nat) (e : s' = { s with heap := h', toks := tk }) (t : Tr Γ g s.heap g' h') (a : At Γ g' σ' h') (r : FlowIs Γ g' h' o f) (q : Q o σ')

/-- what a raise leaves: exceptions of a frame -/
abbrev ExPost := Gh → Shared → Value → Shared → Prop

def WS (Γ : Cx) (E : ExPost) (st : Stmt) (Q : Out → St → Prop) (σ : St) : Prop :=
  ∀ g s, At Γ g σ s.heap → wpAny (model Γ.prog Γ.w) Γ.A (exec st Γ.env) (PostS Γ g s Q) (E g s) s
def WX (Γ : Cx) (E : ExPost) (ss : List Stmt) (Q : Out → St → Prop) (σ : St) : Prop :=
  ∀ g s, At Γ g σ s.heap → wpAny (model Γ.prog Γ.w) Γ.A (execs ss Γ.env) (PostS Γ g s Q) (E g s) s

/-- an ExPost that speaks of what was there -/
def ExOk (Γ : Cx) (E : ExPost) : Prop := ∀ g s g' h' tk e s', Tr Γ g s.heap g' h' → E g' { s with heap := h', toks := tk } e s' → E g s e s'
def NoX : ExPost := fun _ _ _ _ => False
theorem NoX.ok (Γ : Cx) : ExOk Γ NoX := fun _ _ _ _ _ _ _ _ h => h

section
variable {Γ : Cx} {E : ExPost} {σ : St}

theorem PostE.tr {g g' : Gh} {s : Shared} {h' : Heap} {tk : Nat} {Q : D → St → Prop} {v : Value} {s' : Shared} (t : Tr Γ g s.heap g' h') (p : PostE Γ g' { s with heap := h', toks := tk } Q v s') : PostE Γ g s Q v s' := by
  obtain ⟨g'', σ', d, h'', tk', e, t', a, r, q⟩ := p
  exact ⟨g'', σ', d, h'', tk', e, t.trans t', a, r, q⟩
theorem PostT.tr {g g' : Gh} {s : Shared} {h' : Heap} {tk : Nat} {Q : Bool → St → Prop} {v : Bool} {s' : Shared} (t : Tr Γ g s.heap g' h') (p : PostT Γ g' { s with heap := h', toks := tk } Q v s') : PostT Γ g s Q v s' := by
  obtain ⟨g'', σ', h'', tk', e, t', a, q⟩ := p
  exact ⟨g'', σ', h'', tk', e, t.trans t', a, q⟩
theorem PostS.tr {g g' : Gh} {s : Shared} {h' : Heap} {tk : Nat} {Q : Out → St → Prop} {v : Flow} {s' : Shared} (t : Tr Γ g s.heap g' h') (p : PostS Γ g' { s with heap := h', toks := tk } Q v s') : PostS Γ g s Q v s' := by
  obtain ⟨g'', σ', o, h'', tk', e, t', a, r, q⟩ := p
  exact ⟨g'', σ', o, h'', tk', e, t.trans t', a, r, q⟩

/-- use of an expression's triple inside a bigger tree -/
theorem WE.use {e : Expr} {Q : D → St → Prop} {g : Gh} {s : Shared} {P : Value → Shared → Prop} {X : Value → Shared → Prop} (w : WE Γ e Q σ) (a : At Γ g σ s.heap)
    (h : ∀ v g' σ' d h' tk, Tr Γ g s.heap g' h' → At Γ g' σ' h' → RepV Γ.toWd g' h' d v → Q d σ' → P v { s with heap := h', toks := tk }) :
    wpAny (model Γ.prog Γ.w) Γ.A (eval e Γ.env) P X s :=
  wpAny_mono (w g s a) (fun v s' p => by obtain ⟨g', σ', d, h', tk, rfl, t, a', r, q⟩ := p; exact h v g' σ' d h' tk t a' r q) fun _ _ f => f.elim
theorem WT.use {e : Expr} {Q : Bool → St → Prop} {g : Gh} {s : Shared} {P : Bool → Shared → Prop} {X : Value → Shared → Prop} (w : WT Γ e Q σ) (a : At Γ g σ s.heap)
    (h : ∀ b g' σ' h' tk, Tr Γ g s.heap g' h' → At Γ g' σ' h' → Q b σ' → P b { s with heap := h', toks := tk }) :
    wpAny (model Γ.prog Γ.w) Γ.A (isTrue e Γ.env (eval e Γ.env)) P X s :=
  wpAny_mono (w g s a) (fun v s' p => by obtain ⟨g', σ', h', tk, rfl, t, a', q⟩ := p; exact h v g' σ' h' tk t a' q) fun _ _ f => f.elim

theorem WE.mono {e : Expr} {Q Q' : D → St → Prop} (w : WE Γ e Q σ) (h : ∀ d σ', Q d σ' → Q' d σ') : WE Γ e Q' σ := fun g s a =>
  w.use a fun v g' σ' d h' tk t a' r q => ⟨g', σ', d, h', tk, rfl, t, a', r, h d σ' q⟩
theorem WT.mono {e : Expr} {Q Q' : Bool → St → Prop} (w : WT Γ e Q σ) (h : ∀ d σ', Q d σ' → Q' d σ') : WT Γ e Q' σ := fun g s a =>
  w.use a fun v g' σ' h' tk t a' q => ⟨g', σ', h', tk, rfl, t, a', h v σ' q⟩
theorem WS.mono {st : Stmt} {Q Q' : Out → St → Prop} (w : WS Γ E st Q σ) (h : ∀ d σ', Q d σ' → Q' d σ') : WS Γ E st Q' σ := fun g s a =>
  wpAny_mono (w g s a) (fun v s' p => by obtain ⟨g', σ', d, h', tk, rfl, t, a', r, q⟩ := p; exact ⟨g', σ', d, h', tk, rfl, t, a', r, h d σ' q⟩) fun _ _ f => f
theorem WX.mono {st : List Stmt} {Q Q' : Out → St → Prop} (w : WX Γ E st Q σ) (h : ∀ d σ', Q d σ' → Q' d σ') : WX Γ E st Q' σ := fun g s a =>
  wpAny_mono (w g s a) (fun v s' p => by obtain ⟨g', σ', d, h', tk, rfl, t, a', r, q⟩ := p; exact ⟨g', σ', d, h', tk, rfl, t, a', r, h d σ' q⟩) fun _ _ f => f
theorem WEs.mono : ∀ {es : List Expr} {Q Q' : List D → St → Prop} {σ : St}, WEs Γ es Q σ → (∀ d σ', Q d σ' → Q' d σ') → WEs Γ es Q' σ
  | [], _, _, _, w, h => h _ _ w
  | _ :: _, _, _, _, w, h => WE.mono w fun _ _ q => WEs.mono q fun _ _ q => h _ _ q

theorem WX.nil {Q : Out → St → Prop} (h : Q .next σ) : WX Γ E [] Q σ := fun g s a => wpAny_execs_nil ⟨g, σ, .next, s.heap, s.toks, rfl, Tr.refl .., a, rfl, h⟩

/-- the rest of a block -/
def Then (Γ : Cx) (E : ExPost) (rest : List Stmt) (Q : Out → St → Prop) : Out → St → Prop := fun o σ₁ => match o with | .next => WX Γ E rest Q σ₁ | o => Q o σ₁
/-- a loop's turn -/
def Turn (J : St → Prop) (Q : Out → St → Prop) : Out → St → Prop := fun o σ₄ => match o with | .next => J σ₄ | .cont => J σ₄ | .brk => Q .next σ₄ | .ret d => Q (.ret d) σ₄
/-- a def's answer -/
inductive RetQ (R : D → List OO → Prop) (o : Out) (σ' : St) : Prop
  | mk (r : D) (e : o = .ret r) (h : ∀ i, r ≠ .own i) (q : R r σ'.own)
theorem WX.cons {st : Stmt} {rest : List Stmt} {Q : Out → St → Prop} (hE : ExOk Γ E) (h : WS Γ E st (Then Γ E rest Q) σ) : WX Γ E (st :: rest) Q σ := fun g s a => by
  refine wpAny_execs_cons (wpAny_mono (h g s a) (fun f s' p => ?_) fun _ _ e => e)
  obtain ⟨g', σ', o, h', tk, rfl, t, a', r, q⟩ := p
  cases o with
  | next =>
    have : f = .next := r
    subst this
    exact wpAny_mono (q g' _ a') (fun _ _ p => PostS.tr t p) fun e s'' x => hE _ _ _ _ _ _ _ t x
  | brk => have : f = .brk := r; subst this; exact ⟨g', σ', .brk, h', tk, rfl, t, a', rfl, q⟩
  | cont => have : f = .cont := r; subst this; exact ⟨g', σ', .cont, h', tk, rfl, t, a', rfl, q⟩
  | ret d => obtain ⟨v, rfl, rv⟩ := r; exact ⟨g', σ', .ret d, h', tk, rfl, t, a', ⟨v, rfl, rv⟩, q⟩
end
end Mine

namespace Mine

abbrev Kept (h h' : Heap) : Prop := ∀ b o, h.get? b = some o → h'.get? b = some o

def Gh.grow (g : Gh) (h h' : Heap) : Gh := { g with z := fun a => g.z a ∨ (h.get? a = none ∧ (h'.get? a).isSome = true) }
def Gh.growOwn (g : Gh) (h h' : Heap) (n : Addr) : Gh := { z := fun a => g.z a ∨ (h.get? a = none ∧ (h'.get? a).isSome = true ∧ a ≠ n), al := g.al ++ [n] }

theorem live_of {h : Heap} {a : Addr} {o : Obj} (e : h.get? a = some o) : (h.get? a).isSome = true := by rw [e]; rfl
theorem not_live {h : Heap} {a : Addr} (e : h.get? a = none) : ¬ (h.get? a).isSome = true := by rw [e]; simp

section
variable {Γ : Cx} {g : Gh} {σ : St} {h h' : Heap}

theorem At.cellLive (a : At Γ g σ h) {x : Str} {c : Addr} (hc : Γ.env.cells.lookup x = some c) : (h.get? c).isSome = true := by
  obtain ⟨ov, o, e, _⟩ := a.cel x c hc
  exact live_of e

theorem OwnRep.mono {a : Addr} {Z Z' : Addr → Prop} (hz : ∀ a, Z a → Z' a) (hk : ∀ a o, Z a → h.get? a = some o → h'.get? a = some o) (ha : ∀ o, h.get? a = some o → h'.get? a = some o) :
    ∀ {o : OO}, OwnRep Γ.toWd h Z a o → OwnRep Γ.toWd h' Z' a o
  | .lst ds, ⟨vs, hp, r⟩ => ⟨vs, hp.at ha, Reps.mono hz hk _ r⟩
  | .sdct ks ds, ⟨kvs, s, hp, e, r⟩ => ⟨kvs, s, dictOf_keep hp ha, e, Reps.mono hz hk _ r⟩
  | .tdct ks ds, ⟨xs, s, hp, e, zx, r⟩ => ⟨xs, s, dictOfH_keep hp ha (fun x hx o e => hk _ _ (zx x hx) e), e, fun x hx => hz _ (zx x hx), Reps.mono hz hk _ r⟩
  | .dead, _ => trivial

theorem RepV.mono {g' : Gh} (hz : ∀ a, g.z a → g'.z a) (hk : ∀ a o, g.z a → h.get? a = some o → h'.get? a = some o) (hal : ∀ (i : Nat) (a : Addr), g.al[i]? = some a → g'.al[i]? = some a) : ∀ {d : D} {v : Value}, RepV Γ.toWd g h d v → RepV Γ.toWd g' h' d v := by
  intro d v r
  cases d with
  | own i => obtain ⟨a, e, rfl⟩ := r; exact ⟨a, hal i a e, rfl⟩
  | _ => exact Rep.mono hz hk _ r

/-- only new objects: all of them are frozen -/
theorem At.grow (a : At Γ g σ h) (hk : Kept h h') : At Γ (g.grow h h') σ h' := by
  have b := a.move hk
  refine ⟨b.ok, b.keep, ?_, b.cel, b.len, ?_, b.nd, ?_, b.lo, ?_, ?_⟩
  · obtain ⟨m, hn, hl⟩ := b.loc
    exact ⟨m, hn, fun x d hx => let ⟨v, hv, r⟩ := hl x d hx; ⟨v, hv, RepV.mono (g' := g.grow h h') (fun _ z => Or.inl z) (fun _ _ _ e => e) (fun _ _ e => e) r⟩⟩
  · intro i o hi
    obtain ⟨x, hx, r, z⟩ := b.own i o hi
    refine ⟨x, hx, r.mono (fun _ z => .inl z) (fun _ _ _ e => e) (fun _ e => e), fun hd q => ?_⟩
    rcases q with q | ⟨q, _⟩
    · exact z hd q
    · exact not_live q (a.up x (.inr (.inl (List.mem_of_getElem? hx))))
  · intro x hx
    refine ⟨fun q => ?_, (a.mz x hx).2⟩
    rcases q with q | ⟨q, _⟩
    · exact (a.mz x hx).1 q
    · exact not_live q (a.up x (.inr (.inr hx)))
  · rintro x ((q | ⟨_, q⟩) | q)
    · exact b.up x (.inl q)
    · exact q
    · exact b.up x (.inr q)
  · intro x c hc
    refine ⟨fun q => ?_, (a.cz x c hc).2⟩
    rcases q with q | ⟨q, _⟩
    · exact (a.cz x c hc).1 q
    · exact not_live q (a.cellLive hc)

theorem Tr.grow (hk : Kept h h') : Tr Γ g h (g.grow h h') h' :=
  ⟨fun _ z => .inl z, ⟨[], by simp [Gh.grow], by simp⟩, fun a q => q.elim .inl fun q => .inr (.inl q.1), fun a o _ e => hk a o e, fun a o _ _ e => hk a o e, fun a q => by
    obtain ⟨o, e⟩ := Option.isSome_iff_exists.mp q; exact live_of (hk a o e)⟩

theorem Rep.grow (hk : Kept h h') {d : D} {v : Value} (r : Rep Γ.toWd h g.z d v) : Rep Γ.toWd h' (g.grow h h').z d v := Rep.mono (fun _ z => .inl z) (fun _ o _ e => hk _ o e) _ r
theorem Reps.grow (hk : Kept h h') {d : List D} {v : List Value} (r : Reps Γ.toWd h g.z d v) : Reps Γ.toWd h' (g.grow h h').z d v := Reps.mono (fun _ z => .inl z) (fun _ o _ e => hk _ o e) _ r

/-- new objects, one of them the frame's own -/
theorem At.newOwn {n : Addr} {o : OO} (a : At Γ g σ h) (hk : Kept h h') (hn : h.get? n = none) (hl : (h'.get? n).isSome = true) (r : OwnRep Γ.toWd h' (g.growOwn h h' n).z n o) :
    At Γ (g.growOwn h h' n) { σ with own := σ.own ++ [o] } h' := by
  have b := a.move hk
  have nal : n ∉ g.al := fun q => not_live hn (a.up n (.inr (.inl q)))
  have nz : ¬ g.z n := fun q => not_live hn (a.up n (.inl q))
  have alk : ∀ (i : Nat) (x : Addr), g.al[i]? = some x → (g.growOwn h h' n).al[i]? = some x := fun i x e => by
    show (g.al ++ [n])[i]? = some x
    rw [List.getElem?_append_left (List.getElem?_eq_some_iff.mp e).1]; exact e
  refine ⟨b.ok, b.keep, ?_, b.cel, ?_, ?_, ?_, ?_, ?_, ?_, ?_⟩
  · obtain ⟨m, hn, hl⟩ := b.loc
    exact ⟨m, hn, fun x d hx => let ⟨v, hv, r⟩ := hl x d hx; ⟨v, hv, RepV.mono (g' := g.growOwn h h' n) (fun _ z => Or.inl z) (fun _ _ _ e => e) alk r⟩⟩
  · show (g.al ++ [n]).length = (σ.own ++ [o]).length
    simp [a.len]
  · intro i o' hi
    have hi' : (σ.own ++ [o])[i]? = some o' := hi
    by_cases hl : i < σ.own.length
    · rw [List.getElem?_append_left hl] at hi'
      obtain ⟨x, hx, r, z⟩ := b.own i o' hi'
      refine ⟨x, alk i x hx, r.mono (fun _ z => .inl z) (fun _ _ _ e => e) (fun _ e => e), fun hd q => ?_⟩
      rcases q with q | ⟨q, _⟩
      · exact z hd q
      · exact not_live q (a.up x (.inr (.inl (List.mem_of_getElem? hx))))
    · rw [List.getElem?_append_right (Nat.le_of_not_lt hl)] at hi'
      have : i - σ.own.length = 0 := by
        cases q : i - σ.own.length with
        | zero => rfl
        | succ j => rw [q] at hi'; simp at hi'
      rw [this] at hi'; simp at hi'; subst hi'
      refine ⟨n, ?_, r, fun _ q => ?_⟩
      · show (g.al ++ [n])[i]? = some n
        have e : i = g.al.length := by rw [a.len]; lia
        rw [e]; simp
      · rcases q with q | ⟨_, _, q⟩
        · exact nz q
        · exact q rfl
  · show (g.al ++ [n]).Nodup
    rw [List.nodup_append]
    exact ⟨a.nd, by simp, fun x hx y hy e => by simp at hy; subst hy; exact nal (e ▸ hx)⟩
  · intro x hx
    refine ⟨fun q => ?_, fun q => ?_⟩
    · rcases q with q | ⟨q, _⟩
      · exact (a.mz x hx).1 q
      · exact not_live q (a.up x (.inr (.inr hx)))
    · rcases List.mem_append.mp q with q | q
      · exact (a.mz x hx).2 q
      · simp at q; subst q; exact not_live hn (a.up _ (.inr (.inr hx)))
  · rintro x (q | q)
    · rcases List.mem_append.mp q with q | q
      · exact a.lo x (.inl q)
      · simp at q; subst q
        cases e : Γ.base.get? x with
        | none => rfl
        | some o => rw [a.keep x o e] at hn; cases hn
    · exact a.lo x (.inr q)
  · rintro x ((q | ⟨_, q, _⟩) | q | q)
    · exact b.up x (.inl q)
    · exact q
    · rcases List.mem_append.mp q with q | q
      · exact b.up x (.inr (.inl q))
      · simp at q; subst q; exact hl
    · exact b.up x (.inr (.inr q))
  · intro x c hc
    refine ⟨fun q => ?_, fun q => ?_⟩
    · rcases q with q | ⟨q, _⟩
      · exact (a.cz x c hc).1 q
      · exact not_live q (a.cellLive hc)
    · rcases List.mem_append.mp q with q | q
      · exact (a.cz x c hc).2 q
      · simp at q; subst q; exact not_live hn (a.cellLive hc)

theorem Tr.newOwn {n : Addr} (hk : Kept h h') (hn : h.get? n = none) : Tr Γ g h (g.growOwn h h' n) h' :=
  ⟨fun _ z => .inl z, ⟨[n], rfl, by simpa using hn⟩, fun a q => q.elim .inl fun q => .inr (.inl q.1), fun a o _ e => hk a o e, fun a o _ _ e => hk a o e, fun a q => by
    obtain ⟨o, e⟩ := Option.isSome_iff_exists.mp q; exact live_of (hk a o e)⟩

/-- one own object changes -/
theorem At.updOwn {i : Nat} {o o' : OO} {n : Addr} (a : At Γ g σ h) (hi : σ.own[i]? = some o) (hd : o ≠ .dead) (hn : g.al[i]? = some n)
    (hs : ∀ b o, b ≠ n → h.get? b = some o → h'.get? b = some o) (hl : (h'.get? n).isSome = true) (r : OwnRep Γ.toWd h' g.z n o') : At Γ g { σ with own := σ.own.set i o' } h' := by
  have nal : n ∈ g.al := List.mem_of_getElem? hn
  obtain ⟨n', hn', _, nz⟩ := a.own i o hi
  rw [hn] at hn'; cases hn'
  have nz := nz hd
  have nmu : n ∉ Γ.mu := fun q => (a.mz n q).2 nal
  have kz : ∀ b o, g.z b → h.get? b = some o → h'.get? b = some o := fun b o zb e => hs b o (fun q => nz (q ▸ zb)) e
  refine ⟨a.ok, ?_, ?_, ?_, ?_, ?_, a.nd, a.mz, a.lo, ?_, a.cz⟩
  · intro b o e
    refine hs b o (fun q => ?_) (a.keep b o e)
    subst q; rw [a.lo b (.inl nal)] at e; cases e
  · obtain ⟨m, hns, hloc⟩ := a.loc
    refine ⟨m, hns.at' fun o e => hs _ o (fun q => nmu (q ▸ a.ok.locMu)) e, fun x d hx => ?_⟩
    obtain ⟨v, hv, r⟩ := hloc x d hx
    refine ⟨v, hv.imp id (fun ⟨k, c, hc, hv⟩ => ⟨k, c, hc, ?_⟩), RepV.mono (fun _ z => z) kz (fun _ _ e => e) r⟩
    obtain ⟨oc, ec, dc⟩ := hv
    exact ⟨oc, hs c oc (fun q => (a.cz x c hc).2 (q ▸ nal)) ec, dc⟩
  · intro x c hc
    obtain ⟨ov, oc, ec, dc⟩ := a.cel x c hc
    exact ⟨ov, oc, hs c oc (fun q => (a.cz x c hc).2 (q ▸ nal)) ec, dc⟩
  · simpa using a.len
  · intro j oj hj
    have hj' : (σ.own.set i o')[j]? = some oj := hj
    by_cases q : i = j
    · subst q
      have hlt : i < σ.own.length := (List.getElem?_eq_some_iff.mp hi).1
      rw [List.getElem?_set_self hlt] at hj'
      cases hj'
      exact ⟨n, hn, r, fun _ => nz⟩
    · rw [List.getElem?_set_ne q] at hj'
      obtain ⟨x, hx, rx, zx⟩ := a.own j oj hj'
      refine ⟨x, hx, rx.mono (fun _ z => z) kz (fun o e => hs x o (fun e' => ?_) e), zx⟩
      subst e'
      have hlt : i < g.al.length := (List.getElem?_eq_some_iff.mp hn).1
      exact q ((List.getElem?_inj hlt a.nd).mp (hn.trans hx.symm))
  · intro b hb
    by_cases q : b = n
    · subst q; exact hl
    · obtain ⟨o, e⟩ := Option.isSome_iff_exists.mp (a.up b hb)
      exact live_of (hs b o q e)

theorem Tr.updOwn {i : Nat} {o : OO} {n : Addr} (a : At Γ g σ h) (hi : σ.own[i]? = some o) (hd : o ≠ .dead) (hn : g.al[i]? = some n)
    (hs : ∀ b o, b ≠ n → h.get? b = some o → h'.get? b = some o) (hl : (h'.get? n).isSome = true) : Tr Γ g h g h' := by
  have nal : n ∈ g.al := List.mem_of_getElem? hn
  obtain ⟨n', hn', _, nz⟩ := a.own i o hi
  rw [hn] at hn'; cases hn'
  refine ⟨fun _ z => z, ⟨[], by simp, by simp⟩, fun _ z => .inl z, fun b o zb e => hs b o (fun q => nz hd (q ▸ zb)) e, fun b o _ hb e => hs b o (fun q => hb (q ▸ nal)) e, fun b q => ?_⟩
  by_cases e : b = n
  · subst e; exact hl
  · obtain ⟨o, eo⟩ := Option.isSome_iff_exists.mp q
    exact live_of (hs b o e eo)

theorem ns_live {a : Addr} {m : Str → Option Value} (n : h.Ns a m) : (h.get? a).isSome = true := by obtain ⟨_, _, _, e, _⟩ := n; exact live_of e

/-- a mutable place of the frame's own (its locals, a cell) changes -/
theorem Tr.mu {n : Addr} (a : At Γ g σ h) (hm : n ∈ Γ.mu) (hs : ∀ b o, b ≠ n → h.get? b = some o → h'.get? b = some o) (hl : (h'.get? n).isSome = true) : Tr Γ g h g h' := by
  refine ⟨fun _ z => z, ⟨[], by simp, by simp⟩, fun _ z => .inl z, fun b o zb e => hs b o (fun q => (a.mz n hm).1 (q ▸ zb)) e, fun b o hb _ e => hs b o (fun q => hb (q ▸ hm)) e, fun b q => ?_⟩
  by_cases e : b = n
  · subst e; exact hl
  · obtain ⟨o, eo⟩ := Option.isSome_iff_exists.mp q
    exact live_of (hs b o e eo)

theorem At.setMu {n : Addr} {σ' : St} (a : At Γ g σ h) (hm : n ∈ Γ.mu) (hs : ∀ b o, b ≠ n → h.get? b = some o → h'.get? b = some o) (hl : (h'.get? n).isSome = true)
    (hown : σ'.own = σ.own) (hcel : ∀ x c, Γ.env.cells.lookup x = some c → ∃ ov, h'.IsCell c ov)
    (hloc : (∀ d v, RepV Γ.toWd g h d v → RepV Γ.toWd g h' d v) → ∃ m, h'.Ns Γ.env.locals m ∧ ∀ x d, σ'.loc x = some d → ∃ v, VarAt Γ h' m x v ∧ RepV Γ.toWd g h' d v) : At Γ g σ' h' := by
  have kz : ∀ b o, g.z b → h.get? b = some o → h'.get? b = some o := fun b o zb e => hs b o (fun q => (a.mz n hm).1 (q ▸ zb)) e
  refine ⟨a.ok, ?_, hloc fun d v r => RepV.mono (fun _ z => z) kz (fun _ _ e => e) r, hcel, by rw [hown]; exact a.len, ?_, a.nd, a.mz, a.lo, ?_, a.cz⟩
  · intro b o e
    refine hs b o (fun q => ?_) (a.keep b o e)
    subst q; rw [a.lo b (.inr hm)] at e; cases e
  · intro j oj hj
    rw [hown] at hj
    obtain ⟨x, hx, rx, zx⟩ := a.own j oj hj
    exact ⟨x, hx, rx.mono (fun _ z => z) kz (fun o e => hs x o (fun e' => (a.mz n hm).2 (e' ▸ List.mem_of_getElem? hx)) e), zx⟩
  · intro b hb
    by_cases q : b = n
    · subst q; exact hl
    · obtain ⟨o, e⟩ := Option.isSome_iff_exists.mp (a.up b hb)
      exact live_of (hs b o q e)

theorem At.setLoc {x : Str} {d : D} {v : Value} {m : Str → Option Value} (a : At Γ g σ h) (hk : Γ.env.kindOf x = some .local) (hm : ∀ y e, σ.loc y = some e → ∃ u, VarAt Γ h m y u ∧ RepV Γ.toWd g h e u)
    (hn : h'.Ns Γ.env.locals (fun y => if y = x then some v else m y)) (hs : Heap.SameBut Γ.env.locals h h') (r : RepV Γ.toWd g h d v) : At Γ g (σ.set x d) h' := by
  refine a.setMu a.ok.locMu (fun b o hb e => (hs.2 b hb).trans e) (ns_live hn) rfl (fun y c hc => ?_) fun up => ⟨_, hn, fun y e hy => ?_⟩
  · obtain ⟨ov, o⟩ := a.cel y c hc
    exact ⟨ov, o.sameBut hs (a.ok.cellL y c hc)⟩
  · by_cases q : y = x
    · subst q
      have : (σ.set y d).loc y = some d := by simp [St.set]
      rw [this] at hy; cases hy
      exact ⟨v, .inl ⟨hk, by simp⟩, up _ _ r⟩
    · have : (σ.set x d).loc y = σ.loc y := by simp [St.set, q]
      rw [this] at hy
      obtain ⟨u, hu, ru⟩ := hm y e hy
      refine ⟨u, ?_, up _ _ ru⟩
      rcases hu with ⟨h1, h2⟩ | ⟨h1, c, hc, h2⟩
      · exact .inl ⟨h1, by simpa [q] using h2⟩
      · exact .inr ⟨h1, c, hc, h2.sameBut hs (a.ok.cellL y c hc)⟩

theorem At.setCell {x : Str} {d : D} {v : Value} {c : Addr} (a : At Γ g σ h) (hk : Γ.env.kindOf x = some .cell) (hc : Γ.env.cells.lookup x = some c) (hmu : c ∈ Γ.mu)
    (hn : h'.IsCell c (some v)) (hs : Heap.SameBut c h h') (r : RepV Γ.toWd g h d v) : At Γ g (σ.set x d) h' := by
  have lv : (h'.get? c).isSome = true := by obtain ⟨o, e, _⟩ := hn; exact live_of e
  refine a.setMu hmu (fun b o hb e => (hs.2 b hb).trans e) lv rfl (fun y c' hc' => ?_) fun up => ?_
  · obtain ⟨ov, o⟩ := a.cel y c' hc'
    by_cases q : c' = c
    · subst q; exact ⟨_, hn⟩
    · exact ⟨ov, o.sameBut hs q⟩
  · obtain ⟨m, hns, hm⟩ := a.loc
    refine ⟨m, hns.sameBut hs (Ne.symm (a.ok.cellL x c hc)), fun y e hy => ?_⟩
    by_cases q : y = x
    · subst q
      have : (σ.set y d).loc y = some d := by simp [St.set]
      rw [this] at hy; cases hy
      exact ⟨v, .inr ⟨hk, c, hc, hn⟩, up _ _ r⟩
    · have : (σ.set x d).loc y = σ.loc y := by simp [St.set, q]
      rw [this] at hy
      obtain ⟨u, hu, ru⟩ := hm y e hy
      refine ⟨u, ?_, up _ _ ru⟩
      rcases hu with ⟨h1, h2⟩ | ⟨h1, c', hc', h2⟩
      · exact .inl ⟨h1, h2⟩
      · exact .inr ⟨h1, c', hc', h2.sameBut hs (fun e' => q (a.ok.inj y x c' hc' (e' ▸ hc)))⟩

/-- freezing an own object (a step of the proof alone) -/
def OO.toD : OO → D
  | .lst ds => .lst ds
  | .sdct ks ds => .sdct ks ds
  | .tdct ks ds => .tdct ks ds
  | .dead => .none
def D.thaw (i : Nat) (d : D) : D → D
  | .own j => if j = i then d else .own j
  | e => e
def St.freeze (σ : St) (i : Nat) (o : OO) : St := { loc := fun x => (σ.loc x).map (D.thaw i o.toD), own := σ.own.set i .dead }
def Gh.freeze (g : Gh) (n : Addr) : Gh := { g with z := fun a => g.z a ∨ a = n }

theorem ownRep_rep {o : OO} {n : Addr} {Z Z' : Addr → Prop} (hz : ∀ a, Z a → Z' a) (zn : Z' n) (hd : o ≠ .dead) (r : OwnRep Γ.toWd h Z n o) : Rep Γ.toWd h Z' o.toD (.ref n) := by
  cases o with
  | lst ds => obtain ⟨vs, hp, r⟩ := r; exact ⟨n, vs, rfl, zn, hp.isList, Reps.mono hz (fun _ _ _ e => e) _ r⟩
  | sdct ks ds => obtain ⟨kvs, s, hp, e, r⟩ := r; exact ⟨n, kvs, rfl, zn, s, hp, e, Reps.mono hz (fun _ _ _ e => e) _ r⟩
  | tdct ks ds => obtain ⟨xs, s, hp, e, zx, r⟩ := r; exact ⟨n, xs, rfl, zn, s, hp, e, fun x hx => hz _ (zx x hx), Reps.mono hz (fun _ _ _ e => e) _ r⟩
  | dead => exact absurd rfl hd

theorem At.freeze {i : Nat} {o : OO} {n : Addr} (a : At Γ g σ h) (hi : σ.own[i]? = some o) (hd : o ≠ .dead) (hn : g.al[i]? = some n) : At Γ (g.freeze n) (σ.freeze i o) h := by
  have nal : n ∈ g.al := List.mem_of_getElem? hn
  obtain ⟨n', hn', rn, nz⟩ := a.own i o hi
  rw [hn] at hn'; cases hn'
  refine ⟨a.ok, a.keep, ?_, a.cel, ?_, ?_, a.nd, ?_, a.lo, ?_, ?_⟩
  · obtain ⟨m, hns, hm⟩ := a.loc
    refine ⟨m, hns, fun x d hx => ?_⟩
    obtain ⟨d', hd', rfl⟩ : ∃ d', σ.loc x = some d' ∧ D.thaw i o.toD d' = d := by
      have : (σ.loc x).map (D.thaw i o.toD) = some d := hx
      simpa [Option.map_eq_some_iff] using this
    obtain ⟨v, hv, r⟩ := hm x d' hd'
    refine ⟨v, hv, ?_⟩
    cases d' with
    | own j =>
      show RepV Γ.toWd (g.freeze n) h (if j = i then o.toD else D.own j) v
      by_cases q : j = i
      · rw [if_pos q]
        subst q
        obtain ⟨b, hb, rfl⟩ := r
        rw [hn] at hb; cases hb
        exact RepV.of (ownRep_rep (fun _ z => .inl z) (.inr rfl) hd rn)
      · rw [if_neg q]; exact r
    | _ => exact Rep.mono (fun _ z => .inl z) (fun _ _ _ e => e) _ r
  · show g.al.length = (σ.own.set i .dead).length
    rw [List.length_set]; exact a.len
  · intro j oj hj
    have hj' : (σ.own.set i .dead)[j]? = some oj := hj
    by_cases q : i = j
    · subst q
      have hlt : i < σ.own.length := (List.getElem?_eq_some_iff.mp hi).1
      rw [List.getElem?_set_self hlt] at hj'
      cases hj'
      exact ⟨n, hn, trivial, fun q => absurd rfl q⟩
    · rw [List.getElem?_set_ne q] at hj'
      obtain ⟨x, hx, rx, zx⟩ := a.own j oj hj'
      refine ⟨x, hx, rx.mono (fun _ z => .inl z) (fun _ _ _ e => e) (fun _ e => e), fun hd' z => ?_⟩
      rcases z with z | z
      · exact zx hd' z
      · subst z
        have hlt : i < g.al.length := (List.getElem?_eq_some_iff.mp hn).1
        exact q ((List.getElem?_inj hlt a.nd).mp (hn.trans hx.symm))
  · intro b hb
    refine ⟨fun z => ?_, (a.mz b hb).2⟩
    rcases z with z | z
    · exact (a.mz b hb).1 z
    · subst z; exact (a.mz b hb).2 nal
  · rintro b ((z | z) | z)
    · exact a.up b (.inl z)
    · subst z; exact a.up b (.inr (.inl nal))
    · exact a.up b (.inr z)
  · intro x c hc
    refine ⟨fun z => ?_, (a.cz x c hc).2⟩
    rcases z with z | z
    · exact (a.cz x c hc).1 z
    · subst z; exact (a.cz x c hc).2 nal

theorem Tr.freeze {i : Nat} {n : Addr} (hk : Γ.k ≤ i) (hn : g.al[i]? = some n) : Tr Γ g h (g.freeze n) h :=
  ⟨fun _ z => .inl z, ⟨[], by simp [Gh.freeze], by simp⟩, fun a q => q.elim .inl fun q => .inr (.inr ⟨i, hk, q ▸ hn⟩), fun _ _ _ e => e, fun _ _ _ _ e => e, fun _ e => e⟩

theorem At.addr (a : At Γ g σ h) {i : Nat} {o : OO} (hi : σ.own[i]? = some o) : ∃ n : Addr, g.al[i]? = some n := by obtain ⟨n, hn, _⟩ := a.own i o hi; exact ⟨n, hn⟩

theorem WX.freeze {E : ExPost} {ss : List Stmt} {Q : Out → St → Prop} (i : Nat) (o : OO) (hE : ExOk Γ E) (hi : σ.own[i]? = some o) (hd : o ≠ .dead) (hk : Γ.k ≤ i) (w : WX Γ E ss Q (σ.freeze i o)) : WX Γ E ss Q σ := fun g s a => by
  obtain ⟨n, hn⟩ := a.addr hi
  have t : Tr Γ g s.heap (g.freeze n) s.heap := Tr.freeze hk hn
  exact wpAny_mono (w (g.freeze n) s (a.freeze hi hd hn)) (fun _ _ p => PostS.tr (tk := s.toks) t p) fun e s' x => hE g s _ s.heap s.toks e s' t x
end
end Mine

namespace Mine

/-- a step that only makes new objects and gives d -/
inductive PR (Γ : Cx) (g : Gh) (s : Shared) (d : D) (v : Value) (s' : Shared) : Prop
  | mk (h' : Heap) (tk : Nat) (e : s' = { s with heap := h', toks := tk }) (k : Kept s.heap h') (r : RepV Γ.toWd (g.grow s.heap h') h' d v)
inductive PB (s : Shared) (b c : Bool) (s' : Shared) : Prop
  | mk (q : c = b) (h' : Heap) (tk : Nat) (e : s' = { s with heap := h', toks := tk }) (k : Kept s.heap h')

noncomputable def RepVs (Γ : Wd) (g : Gh) (h : Heap) : List D → List Value → Prop
  | [], vs => vs = []
  | d :: ds, vs => ∃ v ws, vs = v :: ws ∧ RepV Γ g h d v ∧ RepVs Γ g h ds ws

section
variable {Γ : Cx} {E : ExPost} {σ : St} {g : Gh} {s : Shared}

theorem PR.here {d : D} {v : Value} {tk : Nat} (r : RepV Γ.toWd g s.heap d v) : PR Γ g s d v { s with toks := tk } := by
  exact ⟨s.heap, tk, rfl, fun _ _ e => e, RepV.mono (g' := g.grow s.heap s.heap) (fun _ z => Or.inl z) (fun _ _ _ e => e) (fun _ _ e => e) r⟩
theorem PR.keep {d : D} {v : Value} {tk : Nat} {h' : Heap} (hk : Kept s.heap h') (r : RepV Γ.toWd (g.grow s.heap h') h' d v) : PR Γ g s d v { s with heap := h', toks := tk } := ⟨h', tk, rfl, hk, r⟩
theorem PR.plain {d : D} {v : Value} {tk : Nat} {h' : Heap} (hk : Kept s.heap h') (r : ∀ h Z, Rep Γ.toWd h Z d v) : PR Γ g s d v { s with heap := h', toks := tk } := ⟨h', tk, rfl, hk, RepV.of (r _ _)⟩
theorem PR.pure {d : D} {v : Value} {tk : Nat} (r : ∀ h Z, Rep Γ.toWd h Z d v) : PR Γ g s d v { s with toks := tk } := ⟨s.heap, tk, rfl, fun _ _ e => e, RepV.of (r _ _)⟩

theorem PR.post {d : D} {v : Value} {s' : Shared} {Q : D → St → Prop} (p : PR Γ g s d v s') (a : At Γ g σ s.heap) (q : Q d σ) : PostE Γ g s Q v s' := by
  obtain ⟨h', tk, rfl, hk, r⟩ := p
  exact ⟨g.grow s.heap h', σ, d, h', tk, rfl, Tr.grow hk, a.grow hk, r, q⟩

theorem RepVs.reps {h : Heap} : ∀ {ds : List D} {vs : List Value}, (∀ d ∈ ds, ∀ i, d ≠ .own i) → RepVs Γ.toWd g h ds vs → Reps Γ.toWd h g.z ds vs
  | [], _, _, r => r
  | d :: _, _, hd, ⟨v, ws, e, r, rs⟩ => ⟨v, ws, e, r.rep (hd d List.mem_cons_self), RepVs.reps (fun d m => hd d (List.mem_cons_of_mem _ m)) rs⟩
theorem RepVs.length {h : Heap} : ∀ {ds : List D} {vs : List Value}, RepVs Γ.toWd g h ds vs → vs.length = ds.length
  | [], _, r => by cases r; rfl
  | d :: _, _, ⟨v, ws, e, r, rs⟩ => by subst e; simp [RepVs.length rs]

def notStar : Expr → Bool
  | .Starred .. => false
  | _ => true
theorem starEach_cons {e : Expr} {rest : List Expr} {env : Env} (h : notStar e = true) : starEach (e :: rest) env = (false, eval e env) :: starEach rest env := by
  cases e <;> first | rfl | (simp [notStar] at h)

theorem backTo_plain (pos : Pos) (env : Env) : ∀ (es : List Expr), es.all notStar = true → (backTo pos (starEach es env)).any (·.1) = false
  | [], _ => rfl
  | e :: es, h => by
    simp only [List.all_cons, Bool.and_eq_true] at h
    rw [starEach_cons h.1]
    show (false || (backTo pos (starEach es env)).any (·.1)) = false
    rw [backTo_plain pos env es h.2]; rfl

inductive PostEs (Γ : Cx) (g : Gh) (s : Shared) (Q : List D → St → Prop) (vs : List Value) (s' : Shared) : Prop
  | mk (g' : Gh) (σ' : St) (ds : List D) (h' : Heap) (tk : Nat) (e : s' = { s with heap := h', toks := tk }) (t : Tr Γ g s.heap g' h') (a : At Γ g' σ' h') (r : RepVs Γ.toWd g' h' ds vs) (q : Q ds σ')

theorem WEs.items (pos : Pos) : ∀ (es : List Expr) {Q : List D → St → Prop} {σ : St}, es.all notStar = true → WEs Γ es Q σ → ∀ g s, At Γ g σ s.heap →
    wpAny (model Γ.prog Γ.w) Γ.A (spliced (backTo pos (starEach es Γ.env))) (PostEs Γ g s Q) NoE s
  | [], Q, σ, _, w, g, s, a => wpAny_items_nil ⟨g, σ, [], s.heap, s.toks, rfl, Tr.refl .., a, rfl, w⟩
  | e :: es, Q, σ, hs, w, g, s, a => by
    simp only [List.all_cons, Bool.and_eq_true] at hs
    refine wpAny_items_cons (WE.use w a fun v g₁ σ₁ d h₁ tk t₁ a₁ r₁ q₁ => ?_) (starEach_cons hs.1)
    refine wpAny_mono (WEs.items pos es hs.2 q₁ g₁ _ a₁) (fun vs s' p => ?_) fun _ _ f => f
    obtain ⟨g₂, σ₂, ds, h₂, tk₂, rfl, t₂, a₂, r₂, q₂⟩ := p
    exact ⟨g₂, σ₂, d :: ds, h₂, tk₂, rfl, t₁.trans t₂, a₂, ⟨v, vs, rfl, r₁.tr t₂, r₂⟩, q₂⟩

theorem WE.const_int {i : Int} {k pos} {Q : D → St → Prop} (h : Q (.int i) σ) : WE Γ (.Constant (.int i) k pos) Q σ := fun g s a =>
  wpAny_Constant_int ((PR.pure (d := .int i) fun _ _ => ⟨_, rfl⟩).post a h)
theorem WE.const_str {x : Str} {k pos} {Q : D → St → Prop} (h : Q (.str x) σ) : WE Γ (.Constant (.str x) k pos) Q σ := fun g s a =>
  wpAny_Constant_str ((PR.pure (d := .str x) fun _ _ => ⟨_, rfl⟩).post a h)
theorem WE.const_none {k pos} {Q : D → St → Prop} (h : Q .none σ) : WE Γ (.Constant .none k pos) Q σ := fun g s a =>
  wpAny_Constant_none ((PR.pure (tk := s.toks) (d := .none) fun _ _ => rfl).post a h)
theorem WE.const_bytes {x : List UInt8} {k pos} {Q : D → St → Prop} (h : Q (.bytes (x.map fun c => (c.toNat : Int))) σ) : WE Γ (.Constant (.bytes x) k pos) Q σ := fun g s a =>
  show wpAny _ _ (eval (.Constant (.bytes x) k pos) Γ.env) _ _ _ from
  (fun _ _ _ => ((PR.pure (Γ := Γ) (g := g) (s := s) (tk := s.toks + 1) (v := .bytes x.toArray s.toks) (d := .bytes (x.map fun c => (c.toNat : Int))) fun _ _ => ⟨_, _, rfl, rfl⟩).post a h : PostE Γ g s Q (.bytes x.toArray s.toks) { s with toks := s.toks + 1 }))

theorem WE.name {x : Str} {pos : Pos} {d : D} {Q : D → St → Prop} (hx : σ.loc x = some d) (h : Q d σ) (hd : (x == ("__debug__" : Str)) = false := by decide) : WE Γ (.Name x pos) Q σ := fun g s a => by
  obtain ⟨m, hn, hl⟩ := a.loc
  obtain ⟨v, hv, r⟩ := hl x d hx
  have fin : PostE Γ g s Q v s := (PR.here (tk := s.toks) r).post a h
  refine wpAny_Name ?_ hd
  rcases hv with ⟨k, e⟩ | ⟨k, c, hc, e⟩
  · exact wpAny_loadName_local a.ok.kind k hn e fin
  · exact wpAny_loadName_cell a.ok.kind k hc e fin

/-- a name of the module -/
theorem eval_global {x : Str} {pos : Pos} {v : Value} {P : Value → Shared → Prop} {X : Value → Shared → Prop} (a : At Γ g σ s.heap) (hk : Γ.env.kindOf x = some .globalImplicit) (hv : Γ.mg x = some v) (h : P v s)
    (hd : (x == ("__debug__" : Str)) = false := by decide) : wpAny (model Γ.prog Γ.w) Γ.A (eval (.Name x pos) Γ.env) P X s := by
  refine Calls.Name_function_global a.ok.kind hk ?_ hd
  unfold loadGlobal
  rw [a.ok.glob]
  refine wpAny_bind (wpAny_nsGet (a.ok.g.keeps a.keep) ?_)
  rw [hv]; exact wpAny_pure h
theorem eval_builtin {x : Str} {pos : Pos} {v : Value} {P : Value → Shared → Prop} {X : Value → Shared → Prop} (a : At Γ g σ s.heap) (hk : Γ.env.kindOf x = some .globalImplicit) (hm : Γ.mg x = none) (hv : Γ.mb x = some v) (h : P v s)
    (hd : (x == ("__debug__" : Str)) = false := by decide) : wpAny (model Γ.prog Γ.w) Γ.A (eval (.Name x pos) Γ.env) P X s := by
  refine Calls.Name_function_global a.ok.kind hk ?_ hd
  unfold loadGlobal
  rw [a.ok.glob, a.ok.bi]
  refine wpAny_bind (wpAny_nsGet (a.ok.g.keeps a.keep) ?_)
  rw [hm]
  refine wpAny_bind (wpAny_nsGet (a.ok.b.keeps a.keep) ?_)
  rw [hv]; exact wpAny_pure h

/-- operators -/
def BinOk (Γ : Cx) (op : Operator) (a b d : D) : Prop := ∀ g σ (s : Shared) va vb, At Γ g σ s.heap → RepV Γ.toWd g s.heap a va → RepV Γ.toWd g s.heap b vb → wpAny (model Γ.prog Γ.w) Γ.A (binaryOp op va vb) (PR Γ g s d) NoE s
def CmpOk (Γ : Cx) (op : CmpOp) (a b : D) (r : Bool) : Prop := ∀ g σ (s : Shared) va vb, At Γ g σ s.heap → RepV Γ.toWd g s.heap a va → RepV Γ.toWd g s.heap b vb → wpAny (model Γ.prog Γ.w) Γ.A (compareOp op va vb) (PR Γ g s (.bool r)) NoE s
def TruthOk (Γ : Cx) (σ : St) (a : D) (b : Bool) : Prop := ∀ g (s : Shared) va, At Γ g σ s.heap → RepV Γ.toWd g s.heap a va → wpAny (model Γ.prog Γ.w) Γ.A (truthy va) (PB s b) NoE s
/-- the same where one side is the frame's own -/
def CmpOkS (Γ : Cx) (σ : St) (op : CmpOp) (a b : D) (r : Bool) : Prop := ∀ g (s : Shared) va vb, At Γ g σ s.heap → RepV Γ.toWd g s.heap a va → RepV Γ.toWd g s.heap b vb → wpAny (model Γ.prog Γ.w) Γ.A (compareOp op va vb) (PR Γ g s (.bool r)) NoE s
theorem CmpOk.here {op a b r} (h : CmpOk Γ op a b r) : CmpOkS Γ σ op a b r := fun g s va vb at' => h g σ s va vb at'

theorem PR.bool {b : Bool} {v : Value} {s' : Shared} (p : PR Γ g s (.bool b) v s') : v = .bool b ∧ ∃ h' tk, s' = { s with heap := h', toks := tk } ∧ Kept s.heap h' := by
  obtain ⟨h', tk, e, hk, r⟩ := p; exact ⟨r, h', tk, e, hk⟩
theorem wpAny_neverE {α : Type} {M : Model} {A : Around} {t : Sem α} {Q : α → Shared → Prop} {X : Value → Shared → Prop} {s : Shared} (h : wpAny M A t Q NoE s) : wpAny M A t Q X s := wpAny_mono h (fun _ _ x => x) fun _ _ f => f.elim

/-- what an operator's sides are asked for -/
inductive QBin2 (Γ : Cx) (op : Operator) (a : D) (Q : D → St → Prop) (b : D) (σ : St) : Prop
  | mk (d : D) (ok : BinOk Γ op a b d) (q : Q d σ)
abbrev QBin (Γ : Cx) (op : Operator) (r : Expr) (Q : D → St → Prop) (a : D) (σ : St) : Prop := WE Γ r (QBin2 Γ op a Q) σ
inductive QCmp2 (Γ : Cx) (op : CmpOp) (a : D) (Q : Bool → St → Prop) (b : D) (σ : St) : Prop
  | mk (c : Bool) (ok : CmpOkS Γ σ op a b c) (q : Q c σ)
abbrev QCmp (Γ : Cx) (op : CmpOp) (r : Expr) (Q : Bool → St → Prop) (a : D) (σ : St) : Prop := WE Γ r (QCmp2 Γ op a Q) σ
abbrev QB (Q : D → St → Prop) (b : Bool) (σ : St) : Prop := Q (.bool b) σ
abbrev QNB (Q : D → St → Prop) (b : Bool) (σ : St) : Prop := Q (.bool !b) σ
abbrev QN (Q : Bool → St → Prop) (b : Bool) (σ : St) : Prop := Q (!b) σ
inductive QCh2 (Γ : Cx) (op op' : CmpOp) (a : D) (r : Expr) (Q : Bool → St → Prop) (b : D) (σ : St) : Prop
  | mk (c : Bool) (ok : CmpOkS Γ σ op a b c) (qf : c = false → Q false σ) (qt : c = true → WE Γ r (QCmp2 Γ op' b Q) σ)
abbrev QCh (Γ : Cx) (op op' : CmpOp) (m r : Expr) (Q : Bool → St → Prop) (a : D) (σ : St) : Prop := WE Γ m (QCh2 Γ op op' a r Q) σ
inductive QVal (Γ : Cx) (Q : Bool → St → Prop) (d : D) (σ : St) : Prop
  | mk (b : Bool) (ok : TruthOk Γ σ d b) (q : Q b σ)
structure QIte (Γ : Cx) (x y : Expr) (Q : D → St → Prop) (b : Bool) (σ : St) : Prop where
  t : b = true → WE Γ x Q σ
  f : b = false → WE Γ y Q σ
structure QAnd (Γ : Cx) (rest : List Expr) (pos : Pos) (Q : Bool → St → Prop) (b : Bool) (σ : St) : Prop where
  t : b = true → WT Γ (.BoolOp .And rest pos) Q σ
  f : b = false → Q false σ
structure QOr (Γ : Cx) (rest : List Expr) (pos : Pos) (Q : Bool → St → Prop) (b : Bool) (σ : St) : Prop where
  t : b = true → Q true σ
  f : b = false → WT Γ (.BoolOp .Or rest pos) Q σ
inductive QAnd2 (Γ : Cx) (y : Expr) (Q : D → St → Prop) (d : D) (σ : St) : Prop
  | mk (b : Bool) (ok : TruthOk Γ σ d b) (qf : b = false → Q d σ) (qt : b = true → WE Γ y Q σ)
inductive QOr2 (Γ : Cx) (y : Expr) (Q : D → St → Prop) (d : D) (σ : St) : Prop
  | mk (b : Bool) (ok : TruthOk Γ σ d b) (qt : b = true → Q d σ) (qf : b = false → WE Γ y Q σ)
structure QDisp (R : List D → St → Prop) (ds : List D) (σ : St) : Prop where
  o : ∀ d ∈ ds, ∀ i, d ≠ .own i
  z : ds.length ≤ sizeLine
  q : R ds σ
abbrev QTup (Q : D → St → Prop) (ds : List D) (σ : St) : Prop := Q (.tup ds) σ
abbrev QLst (Q : D → St → Prop) (ds : List D) (σ : St) : Prop := Q (.lst ds) σ
abbrev QLstO (Q : D → St → Prop) (ds : List D) (σ : St) : Prop := Q (.own σ.own.length) { σ with own := σ.own ++ [.lst ds] }
theorem WE.binop {l r : Expr} {op : Operator} {pos : Pos} {Q : D → St → Prop} (h : WE Γ l (QBin Γ op r Q) σ) : WE Γ (.BinOp l op r pos) Q σ := fun g s a => by
  refine wpAny_BinOp (WE.use h a fun va g₁ σ₁ da h₁ tk₁ t₁ a₁ r₁ q₁ => WE.use q₁ a₁ fun vb g₂ σ₂ db h₂ tk₂ t₂ a₂ r₂ q₂ => ?_)
  obtain ⟨d, ok, q⟩ := q₂
  exact wpAny_mono (ok g₂ σ₂ _ va vb a₂ (r₁.tr t₂) r₂) (fun v s' p => PostE.tr (t₁.trans t₂) (p.post a₂ q)) fun _ _ f => f

theorem WE.cmp {l r : Expr} {op : CmpOp} {pos : Pos} {Q : D → St → Prop} (h : WE Γ l (QCmp Γ op r (QB Q)) σ) (hm : behindInMarks op r = false := by with_unfolding_all rfl) : WE Γ (.Compare l [op] [r] pos) Q σ := fun g s a => by
  refine wpAny_Compare1 (WE.use h a fun va g₁ σ₁ da h₁ tk₁ t₁ a₁ r₁ q₁ => WE.use q₁ a₁ fun vb g₂ σ₂ db h₂ tk₂ t₂ a₂ r₂ q₂ => ?_) hm
  obtain ⟨d, ok, q⟩ := q₂
  exact wpAny_mono (ok g₂ _ va vb a₂ (r₁.tr t₂) r₂) (fun v s' p => PostE.tr (t₁.trans t₂) (p.post a₂ q)) fun _ _ f => f

theorem WT.cmp {l r : Expr} {op : CmpOp} {pos : Pos} {Q : Bool → St → Prop} (h : WE Γ l (QCmp Γ op r Q) σ) (hm : behindInMarks op r = false := by with_unfolding_all rfl) : WT Γ (.Compare l [op] [r] pos) Q σ := fun g s a => by
  refine wpAny_isTrue_Compare1 (WE.use h a fun va g₁ σ₁ da h₁ tk₁ t₁ a₁ r₁ q₁ => WE.use q₁ a₁ fun vb g₂ σ₂ db h₂ tk₂ t₂ a₂ r₂ q₂ => ?_) hm
  obtain ⟨d, ok, q⟩ := q₂
  refine wpAny_mono (ok g₂ _ va vb a₂ (r₁.tr t₂) r₂) (fun v s' p => ?_) fun _ _ f => f
  obtain ⟨rfl, h', tk, rfl, hk⟩ := p.bool
  exact wpAny_truthy_bool ⟨g₂.grow h₂ h', σ₂, h', tk, rfl, (t₁.trans t₂).trans (Tr.grow hk), a₂.grow hk, q⟩

/-- a chain of two comparisons as a test -/
theorem WT.chain {l m r : Expr} {op op' : CmpOp} {pos : Pos} {Q : Bool → St → Prop}
    (h : WE Γ l (QCh Γ op op' m r Q) σ)
    (hm : lastMarks [op, op'] [m, r] = false := by with_unfolding_all rfl) : WT Γ (.Compare l [op, op'] [m, r] pos) Q σ := fun g s a => by
  refine isTrue_chain (WE.use h a fun va g₁ σ₁ da h₁ tk₁ t₁ a₁ r₁ q₁ => ?_) hm
  refine test_link (WE.use q₁ a₁ fun vb g₂ σ₂ db h₂ tk₂ t₂ a₂ r₂ q₂ => ?_)
  obtain ⟨c, ok, qf, qt⟩ := q₂
  refine wpAny_mono (ok g₂ _ va vb a₂ (r₁.tr t₂) r₂) (fun v s' p => ?_) fun _ _ f => f
  obtain ⟨rfl, h', tk, rfl, hk⟩ := p.bool
  have t₃ := (t₁.trans t₂).trans (Tr.grow (g := g₂) (Γ := Γ) hk)
  refine wpAny_truthy_bool ?_
  cases c with
  | false => exact ⟨g₂.grow h₂ h', σ₂, h', tk, rfl, t₃, a₂.grow hk, qf rfl⟩
  | true =>
    refine test_last (WE.use (qt rfl) (s := { s with heap := h', toks := tk }) (a₂.grow hk) fun ve g₄ σ₄ de h₄ tk₄ t₄ a₄ r₄ q₄ => ?_)
    obtain ⟨c', ok', q'⟩ := q₄
    refine wpAny_mono (ok' g₄ _ vb ve a₄ ((r₂.tr (Tr.grow hk)).tr t₄) r₄) (fun v s' p => ?_) fun _ _ f => f
    obtain ⟨rfl, h5, tk5, rfl, hk5⟩ := p.bool
    exact wpAny_truthy_bool ⟨g₄.grow h₄ h5, σ₄, h5, tk5, rfl, (t₃.trans t₄).trans (Tr.grow hk5), a₄.grow hk5, q'⟩

theorem WT.not {x : Expr} {pos : Pos} {Q : Bool → St → Prop} (h : WT Γ x (QN Q) σ) : WT Γ (.UnaryOp .Not x pos) Q σ := fun g s a =>
  wpAny_isTrue_Not (WT.use h a fun b g' σ' h' tk t a' q => ⟨g', σ', h', tk, rfl, t, a', q⟩)

theorem WT.and_nil {pos : Pos} {Q : Bool → St → Prop} (h : Q true σ) : WT Γ (.BoolOp .And [] pos) Q σ := fun g s a => wpAny_isTrue_BoolOp (wpAny_allTrue_And_nil ⟨g, σ, s.heap, s.toks, rfl, Tr.refl .., a, h⟩)
theorem WT.or_nil {pos : Pos} {Q : Bool → St → Prop} (h : Q false σ) : WT Γ (.BoolOp .Or [] pos) Q σ := fun g s a => wpAny_isTrue_BoolOp (wpAny_allTrue_Or_nil ⟨g, σ, s.heap, s.toks, rfl, Tr.refl .., a, h⟩)
theorem allTrue_of {op : BoolOp} {es : List Expr} {pos : Pos} {P : Bool → Shared → Prop} {X : Value → Shared → Prop} (h : wpAny (model Γ.prog Γ.w) Γ.A (isTrue (.BoolOp op es pos) Γ.env (eval (.BoolOp op es pos) Γ.env)) P X s) : wpAny (model Γ.prog Γ.w) Γ.A (allTrue op es Γ.env) P X s := by
  rw [arm_isTrue_BoolOp] at h; exact h
theorem WT.and_cons {x : Expr} {rest : List Expr} {pos : Pos} {Q : Bool → St → Prop} (h : WT Γ x (QAnd Γ rest pos Q) σ) : WT Γ (.BoolOp .And (x :: rest) pos) Q σ := fun g s a => by
  refine wpAny_isTrue_BoolOp (wpAny_allTrue_And_cons (WT.use h a fun b g' σ' h' tk t a' q => ?_))
  cases b with
  | true => exact allTrue_of (wpAny_mono (q.1 rfl g' _ a') (fun _ _ p => PostT.tr t p) fun _ _ f => f)
  | false => exact ⟨g', σ', h', tk, rfl, t, a', q.2 rfl⟩
theorem WT.or_cons {x : Expr} {rest : List Expr} {pos : Pos} {Q : Bool → St → Prop} (h : WT Γ x (QOr Γ rest pos Q) σ) : WT Γ (.BoolOp .Or (x :: rest) pos) Q σ := fun g s a => by
  refine wpAny_isTrue_BoolOp (wpAny_allTrue_Or_cons (WT.use h a fun b g' σ' h' tk t a' q => ?_))
  cases b with
  | false => exact allTrue_of (wpAny_mono (q.2 rfl g' _ a') (fun _ _ p => PostT.tr t p) fun _ _ f => f)
  | true => exact ⟨g', σ', h', tk, rfl, t, a', q.1 rfl⟩

/-- a test that is a value's truth -/
theorem WT.value {e : Expr} {Q : Bool → St → Prop} (h : WE Γ e (QVal Γ Q) σ)
    (he : ∀ whole, isTrue e Γ.env whole = (do let v ← whole; standAt e.pos; holding [v] (truthy v)) := by intro _; rfl) : WT Γ e Q σ := fun g s a => by
  refine wpAny_isTrue_value (WE.use h a fun v g' σ' d h' tk t a' r q => ?_) (he _)
  obtain ⟨b, ok, q⟩ := q
  refine wpAny_mono (ok g' _ v a' r) (fun c s' p => ?_) fun _ _ f => f
  obtain ⟨rfl, h2, tk2, rfl, hk⟩ := p
  exact ⟨g'.grow h' h2, σ', h2, tk2, rfl, t.trans (Tr.grow hk), a'.grow hk, q⟩

theorem WE.ifexp {test body orelse : Expr} {pos : Pos} {Q : D → St → Prop} (h : WT Γ test (QIte Γ body orelse Q) σ) : WE Γ (.IfExp test body orelse pos) Q σ := fun g s a => by
  refine wpAny_IfExp (WT.use h a fun b g' σ' h' tk t a' q => ?_)
  cases b with
  | true => exact wpAny_mono (q.1 rfl g' _ a') (fun _ _ p => PostE.tr t p) fun _ _ f => f
  | false => exact wpAny_mono (q.2 rfl g' _ a') (fun _ _ p => PostE.tr t p) fun _ _ f => f

theorem WE.not {x : Expr} {pos : Pos} {Q : D → St → Prop} (h : WE Γ x (QVal Γ (QNB Q)) σ) : WE Γ (.UnaryOp .Not x pos) Q σ := fun g s a => by
  refine wpAny_UnaryOp (WE.use h a fun v g' σ' d h' tk t a' r q => not_of ?_)
  obtain ⟨b, ok, q⟩ := q
  refine wpAny_mono (ok g' _ v a' r) (fun c s' p => ?_) fun _ _ f => f
  obtain ⟨rfl, h2, tk2, rfl, hk⟩ := p
  exact ⟨g'.grow h' h2, σ', _, h2, tk2, rfl, t.trans (Tr.grow hk), a'.grow hk, (show RepV Γ.toWd _ _ (.bool !c) (.bool !c) from rfl), q⟩

/-- and / or as values -/
theorem WE.and2 {x y : Expr} {pos : Pos} {Q : D → St → Prop} (h : WE Γ x (QAnd2 Γ y Q) σ) : WE Γ (.BoolOp .And [x, y] pos) Q σ := fun g s a => by
  refine wpAny_And2 (WE.use h a fun v g' σ' d h' tk t a' r q => ?_)
  obtain ⟨b, ok, qf, qt⟩ := q
  refine wpAny_mono (ok g' _ v a' r) (fun c s' p => ?_) fun _ _ f => f
  obtain ⟨rfl, h2, tk2, rfl, hk⟩ := p
  have t2 := t.trans (Tr.grow (Γ := Γ) (g := g') hk)
  cases c with
  | true => exact wpAny_mono (qt rfl _ _ (a'.grow hk)) (fun _ _ p => PostE.tr t2 p) fun _ _ f => f
  | false => exact ⟨g'.grow h' h2, σ', d, h2, tk2, rfl, t2, a'.grow hk, r.tr (Tr.grow hk), qf rfl⟩
theorem WE.or2 {x y : Expr} {pos : Pos} {Q : D → St → Prop} (h : WE Γ x (QOr2 Γ y Q) σ) : WE Γ (.BoolOp .Or [x, y] pos) Q σ := fun g s a => by
  refine wpAny_Or2 (WE.use h a fun v g' σ' d h' tk t a' r q => ?_)
  obtain ⟨b, ok, qt, qf⟩ := q
  refine wpAny_mono (ok g' _ v a' r) (fun c s' p => ?_) fun _ _ f => f
  obtain ⟨rfl, h2, tk2, rfl, hk⟩ := p
  have t2 := t.trans (Tr.grow (Γ := Γ) (g := g') hk)
  cases c with
  | false => exact wpAny_mono (qf rfl _ _ (a'.grow hk)) (fun _ _ p => PostE.tr t2 p) fun _ _ f => f
  | true => exact ⟨g'.grow h' h2, σ', d, h2, tk2, rfl, t2, a'.grow hk, r.tr (Tr.grow hk), qt rfl⟩

/-- displays -/
theorem kept_push (h : Heap) (o : Obj) : Kept h (h.push o) := fun _ _ e => Heap.get?_push_of_some _ e
theorem fresh_size (h : Heap) : h.get? h.objs.size = none := Heap.get?_none_of_le (Nat.le_refl _)
theorem fresh_z {h h' : Heap} {a : Addr} {o : Obj} (hn : h.get? a = none) (e : h'.get? a = some o) : (g.grow h h').z a := .inr ⟨hn, live_of e⟩

theorem WE.tuple {elts : List Expr} {k : Nat} {pos : Pos} {Q : D → St → Prop} (h : WEs Γ elts (QDisp (QTup Q)) σ) (hs : elts.all notStar = true := by rfl) : WE Γ (.Tuple elts k pos) Q σ := fun g s a => by
  refine wpAny_Tuple (wpAny_mono (WEs.items pos elts hs h g s a) (fun vs s' p => ?_) fun _ _ f => f)
  obtain ⟨g', σ', ds, h', tk, rfl, t, a', r, hd, hz, q⟩ := p
  refine ⟨by rw [r.length]; exact hz, PostE.tr (tk := tk) t (PR.post ?_ a' q)⟩
  exact PR.keep (kept_push _ _) (RepV.of ⟨_, vs, rfl, fresh_z (fresh_size _) (Heap.get?_push_size _ rfl), ⟨_, Heap.get?_push_size _ rfl, rfl, _, rfl⟩, (r.reps hd).grow (kept_push _ _)⟩)
theorem WE.list {elts : List Expr} {pos : Pos} {Q : D → St → Prop} (h : WEs Γ elts (QDisp (QLst Q)) σ) (hs : elts.all notStar = true := by rfl) : WE Γ (.List elts pos) Q σ := fun g s a => by
  refine wpAny_List (wpAny_mono (WEs.items pos elts hs h g s a) (fun vs s' p => ?_) fun _ _ f => f)
  obtain ⟨g', σ', ds, h', tk, rfl, t, a', r, hd, hz, q⟩ := p
  refine ⟨by rw [r.length]; exact hz, PostE.tr (tk := tk) t (PR.post ?_ a' q)⟩
  exact PR.keep (kept_push _ _) (RepV.of ⟨_, vs, rfl, fresh_z (fresh_size _) (Heap.get?_push_size _ rfl), ⟨_, Heap.get?_push_size _ rfl, rfl, _, rfl⟩, (r.reps hd).grow (kept_push _ _)⟩)

theorem Reps.growOwn {h h' : Heap} {n : Addr} (hk : Kept h h') {d : List D} {v : List Value} (r : Reps Γ.toWd h g.z d v) : Reps Γ.toWd h' (g.growOwn h h' n).z d v := Reps.mono (fun _ z => .inl z) (fun _ o _ e => hk _ o e) _ r
/-- a list display that the frame keeps for its own -/
theorem WE.listOwn {elts : List Expr} {pos : Pos} {Q : D → St → Prop} (h : WEs Γ elts (QDisp (QLstO Q)) σ) (hs : elts.all notStar = true := by rfl) : WE Γ (.List elts pos) Q σ := fun g s a => by
  refine wpAny_List (wpAny_mono (WEs.items pos elts hs h g s a) (fun vs s' p => ?_) fun _ _ f => f)
  obtain ⟨g', σ', ds, h', tk, rfl, t, a', r, hd, hz, q⟩ := p
  refine ⟨by rw [r.length]; exact hz, PostE.tr (tk := tk) t ?_⟩
  have hk := kept_push h' { cls := .type "list", data := .seq vs.toArray }
  have hp : (h'.push { cls := .type "list", data := .seq vs.toArray }).get? h'.objs.size = some { cls := .type "list", data := .seq vs.toArray } := Heap.get?_push_size _ rfl
  refine ⟨g'.growOwn h' _ h'.objs.size, _, _, _, tk, rfl, Tr.newOwn hk (fresh_size _), At.newOwn (o := .lst ds) a' hk (fresh_size _) (live_of hp) ⟨vs, ⟨_, hp⟩, (r.reps hd).growOwn hk⟩, ?_, q⟩
  refine ⟨h'.objs.size, ?_, rfl⟩
  show (g'.al ++ [h'.objs.size])[σ'.own.length]? = _
  rw [← a'.len]; simp
end
end Mine

namespace Mine

section
variable {Γ : Cx} {E : ExPost} {σ : St} {g : Gh} {s : Shared}

/-- x is a name that the frame may store -/
def Stor (Γ : Cx) (x : Str) : Prop := Γ.env.kindOf x = some .local ∨ (Γ.env.kindOf x = some .cell ∧ ∃ c, Γ.env.cells.lookup x = some c ∧ c ∈ Γ.mu)

theorem store_at {x : Str} {d : D} {v : Value} {P : Unit → Shared → Prop} {X : Value → Shared → Prop} (a : At Γ g σ s.heap) (hs : Stor Γ x) (r : RepV Γ.toWd g s.heap d v)
    (h : ∀ h' tk, Tr Γ g s.heap g h' → At Γ g (σ.set x d) h' → P () { s with heap := h', toks := tk }) : wpAny (model Γ.prog Γ.w) Γ.A (storeName Γ.env x v) P X s := by
  rcases hs with hk | ⟨hk, c, hc, hm⟩
  · obtain ⟨m, hn, hl⟩ := id a.loc
    refine wpAny_storeName_local hk hn (fun h' hn' hs' => h h' _ (Tr.mu a a.ok.locMu (fun b o hb e => (hs'.2 b hb).trans e) (ns_live hn')) (a.setLoc hk hl hn' hs' r)) ?_
    rw [a.ok.kind]; rfl
  · obtain ⟨ov, ho⟩ := a.cel x c hc
    refine wpAny_storeName_cell a.ok.kind hk hc ho fun h' hv hs' => ?_
    have lv : (h'.get? c).isSome = true := by obtain ⟨o, e, _⟩ := hv; exact live_of e
    exact h h' s.toks (Tr.mu a hm (fun b o hb e => (hs'.2 b hb).trans e) lv) (a.setCell hk hc hm hv hs' r)

inductive PostA (Γ : Cx) (g : Gh) (s : Shared) (Q : St → Prop) (u : Unit) (s' : Shared) : Prop
  | mk (g' : Gh) (σ' : St) (h' : Heap) (tk : Nat) (e : s' = { s with heap := h', toks := tk }) (t : Tr Γ g s.heap g' h') (a : At Γ g' σ' h') (q : Q σ')
def WAsg (Γ : Cx) (t : Expr) (e : D) (Q : St → Prop) (σ : St) : Prop :=
  ∀ g (s : Shared) v, At Γ g σ s.heap → RepV Γ.toWd g s.heap e v → wpAny (model Γ.prog Γ.w) Γ.A (assign t Γ.env v) (PostA Γ g s Q) NoE s

theorem WAsg.name {x : Str} {pos : Pos} {e : D} {Q : St → Prop} (hs : Stor Γ x) (h : Q (σ.set x e)) : WAsg Γ (.Name x pos) e Q σ := fun g s v a r =>
  wpAny_assign_Name (store_at a hs r fun h' tk t a' => ⟨g, _, h', tk, rfl, t, a', h⟩)

/-- names in order: what an unpacking stores -/
noncomputable def WNames (Γ : Cx) : List Expr → List D → (St → Prop) → St → Prop
  | [], [], Q, σ => Q σ
  | t :: ts, d :: ds, Q, σ => WAsg Γ t d (fun σ₁ => WNames Γ ts ds Q σ₁) σ
  | _, _, _, _ => False

theorem assignInOrder_of : ∀ (ts : List Expr) (ds : List D) {Q : St → Prop} {σ : St}, WNames Γ ts ds Q σ → ∀ g (s : Shared) vs, At Γ g σ s.heap → Reps Γ.toWd s.heap g.z ds vs →
    wpAny (model Γ.prog Γ.w) Γ.A (assignInOrder (ts.map fun t v => assign t Γ.env v) vs) (PostA Γ g s Q) NoE s
  | [], [], Q, σ, w, g, s, vs, a, r => by
    unfold Reps at r; subst r
    exact wpAny_pure ⟨g, σ, s.heap, s.toks, rfl, Tr.refl .., a, w⟩
  | t :: ts, d :: ds, Q, σ, w, g, s, _, a, r => by
    unfold Reps at r; obtain ⟨v, vs, rfl, r1, r2⟩ := r
    show wpAny _ _ (holding vs (assign t Γ.env v) >>= fun _ => assignInOrder (ts.map fun t v => assign t Γ.env v) vs) _ _ _
    refine wpAny_bind (wpAny_holding (wpAny_mono (w g s v a (RepV.of r1)) (fun _ s' p => ?_) fun _ _ f => f))
    obtain ⟨g', σ', h', tk, rfl, t', a', q⟩ := p
    refine wpAny_mono (assignInOrder_of ts ds q g' _ vs a' (Reps.mono t'.z t'.kz _ r2)) (fun _ s' p => ?_) fun _ _ f => f
    obtain ⟨g2, σ2, h2, tk2, rfl, t2, a2, q2⟩ := p
    exact ⟨g2, σ2, h2, tk2, rfl, t'.trans t2, a2, q2⟩

abbrev QSet (x : Str) (Q : Out → St → Prop) (d : D) (σ : St) : Prop := Q .next (σ.set x d)
abbrev QRet (Q : Out → St → Prop) (d : D) (σ : St) : Prop := Q (.ret d) σ
structure QExpr (Q : Out → St → Prop) (d : D) (σ : St) : Prop where
  e : d = .none
  q : Q .next σ
structure QIf (Γ : Cx) (E : ExPost) (x y : List Stmt) (Q : Out → St → Prop) (b : Bool) (σ : St) : Prop where
  t : b = true → WX Γ E x Q σ
  f : b = false → WX Γ E y Q σ
theorem WS.assign {x : Str} {pos' pos : Pos} {value : Expr} {Q : Out → St → Prop} (hs : Stor Γ x) (h : WE Γ value (QSet x Q) σ)
    (hw : swapsWith value (some (.Name x pos')) pos.line Γ.env = pure false := by rfl) : WS Γ E (.Assign [.Name x pos'] value pos) Q σ := fun g s a => by
  refine wpAny_Assign_Name (WE.use h a fun v g' σ' d h' tk t a' r q => store_at a' hs r fun h2 tk2 t2 a2 => ?_) hw
  exact ⟨g', _, .next, h2, tk2, rfl, t.trans t2, a2, rfl, q⟩

theorem WS.expr {e : Expr} {pos : Pos} {Q : Out → St → Prop} (h : WE Γ e (QExpr Q) σ)
    (hi : interactive Γ.env = false := by rfl) (hw : swapsWith e none pos.line Γ.env = pure false := by rfl) : WS Γ E (.Expr e pos) Q σ := fun g s a => by
  refine wpAny_Expr (WE.use h a fun v g' σ' d h' tk t a' r q => ?_) hi hw
  obtain ⟨rfl, q⟩ := q
  have : v = .none := r
  subst this
  exact ⟨g', _, .next, h', tk, rfl, t, a', rfl, q⟩

theorem WS.ret {e : Expr} {pos : Pos} {Q : Out → St → Prop} (h : WE Γ e (QRet Q) σ) : WS Γ E (.Return (some e) pos) Q σ := fun g s a =>
  wpAny_Return_some (WE.use h a fun v g' σ' d h' tk t a' r q => ⟨g', _, .ret d, h', tk, rfl, t, a', ⟨v, rfl, r⟩, q⟩)

theorem WS.if_ {test : Expr} {body orelse : List Stmt} {pos : Pos} {Q : Out → St → Prop} (hE : ExOk Γ E)
    (h : WT Γ test (QIf Γ E body orelse Q) σ) : WS Γ E (.If test body orelse pos) Q σ := fun g s a => by
  refine wpAny_If (WT.use h a fun b g' σ' h' tk t a' q => ?_)
  cases b with
  | true => exact wpAny_mono (q.1 rfl g' _ a') (fun _ _ p => PostS.tr t p) fun e s'' x => hE _ _ _ _ _ _ _ t x
  | false => exact wpAny_mono (q.2 rfl g' _ a') (fun _ _ p => PostS.tr t p) fun e s'' x => hE _ _ _ _ _ _ _ t x

/-- what lies apart moves -/
theorem At.off {h h' : Heap} {wr : List Addr} (a : At Γ g σ h) (hw : ∀ b ∈ wr, ¬ g.z b ∧ b ∉ g.al ∧ b ∉ Γ.mu ∧ Γ.base.get? b = none ∧ ∀ x c, Γ.env.cells.lookup x = some c → c ≠ b)
    (hk : ∀ b o, b ∉ wr → h.get? b = some o → h'.get? b = some o) : At Γ g σ h' := by
  have kz : ∀ b o, g.z b → h.get? b = some o → h'.get? b = some o := fun b o zb e => hk b o (fun q => (hw b q).1 zb) e
  have kal : ∀ b o, b ∈ g.al → h.get? b = some o → h'.get? b = some o := fun b o zb e => hk b o (fun q => (hw b q).2.1 zb) e
  have kmu : ∀ b o, b ∈ Γ.mu → h.get? b = some o → h'.get? b = some o := fun b o zb e => hk b o (fun q => (hw b q).2.2.1 zb) e
  have kc : ∀ x c, Γ.env.cells.lookup x = some c → ∀ o, h.get? c = some o → h'.get? c = some o := fun x c hc o e => hk c o (fun q => (hw c q).2.2.2.2 x c hc rfl) e
  refine ⟨a.ok, fun b o e => hk b o (fun q => by have := (hw b q).2.2.2.1; rw [e] at this; cases this) (a.keep b o e), ?_, ?_, a.len, ?_, a.nd, a.mz, a.lo, ?_, a.cz⟩
  · obtain ⟨m, hn, hl⟩ := a.loc
    refine ⟨m, hn.at' fun o e => kmu _ o a.ok.locMu e, fun x d hx => ?_⟩
    obtain ⟨v, hv, r⟩ := hl x d hx
    exact ⟨v, hv.imp id (fun ⟨k, c, hc, o, e, dd⟩ => ⟨k, c, hc, o, kc x c hc o e, dd⟩), RepV.mono (fun _ z => z) kz (fun _ _ e => e) r⟩
  · intro x c hc
    obtain ⟨ov, o, e, dd⟩ := a.cel x c hc
    exact ⟨ov, o, kc x c hc o e, dd⟩
  · intro i o hi
    obtain ⟨b, hb, r, z⟩ := a.own i o hi
    exact ⟨b, hb, r.mono (fun _ z => z) kz (fun o e => kal b o (List.mem_of_getElem? hb) e), z⟩
  · rintro b (z | z | z)
    · obtain ⟨o, e⟩ := Option.isSome_iff_exists.mp (a.up b (.inl z)); exact live_of (kz b o z e)
    · obtain ⟨o, e⟩ := Option.isSome_iff_exists.mp (a.up b (.inr (.inl z))); exact live_of (kal b o z e)
    · obtain ⟨o, e⟩ := Option.isSome_iff_exists.mp (a.up b (.inr (.inr z))); exact live_of (kmu b o z e)

theorem Tr.off {g' : Gh} {h₀ h h' : Heap} {wr : List Addr} (t : Tr Γ g h₀ g' h) (hw : ∀ b ∈ wr, h₀.get? b = none) (hk : ∀ b o, b ∉ wr → h.get? b = some o → h'.get? b = some o) : Tr Γ g h₀ g' h' := by
  have off : ∀ b o, h₀.get? b = some o → b ∉ wr := fun b o e q => by rw [hw b q] at e; cases e
  refine ⟨t.z, t.al, t.fz, fun b o z e => hk b o (off b o e) (t.kz b o z e), fun b o m al e => hk b o (off b o e) (t.kp b o m al e), fun b e => ?_⟩
  obtain ⟨o, e⟩ := Option.isSome_iff_exists.mp e
  obtain ⟨o', e'⟩ := Option.isSome_iff_exists.mp (t.lv b (live_of e))
  exact live_of (hk b o' (off b o e) e')

/-- d is walked over as these items -/
structure Iter (Γ : Cx) (g : Gh) (items : List D) (s : Shared) (I : Addr) (fp wr : List Addr) (n : Nat) (P : Nat → Value → Prop) (Sx : Nat → Heap → Prop) (h : Heap) : Prop where
  W : Walks Γ.prog Γ.w Γ.A I fp wr n P Sx
  st : Sx 0 h
  kept : Kept s.heap h
  new : ∀ b ∈ wr, s.heap.get? b = none
  lv : ∀ i h', Sx i h' → ∀ b ∈ wr, (h'.get? b).isSome = true
  foot : ∀ b ∈ fp, b ∈ wr ∨ g.z b
  len : n = items.length
  item : ∀ (i : Nat) v, i < n → P i v → ∃ d, items[i]? = some d ∧ Rep Γ.toWd s.heap g.z d v
  go : ∀ i (s' : Shared) t v (Q : Unit → Shared → Prop) (X : Value → Shared → Prop), Sx i s'.heap → Q () s' → wpAny (model Γ.prog Γ.w) Γ.A (letOwnedTupleGo t (.ref I) v) Q X s'

inductive PostI (Γ : Cx) (g : Gh) (items : List D) (s : Shared) (it : Value) (s' : Shared) : Prop
  | mk (I : Addr) (fp wr : List Addr) (n : Nat) (P : Nat → Value → Prop) (Sx : Nat → Heap → Prop) (h' : Heap) (tk : Nat) (e1 : it = .ref I) (e2 : s' = { s with heap := h', toks := tk }) (x : Iter Γ g items s I fp wr n P Sx h')
def ItOk (Γ : Cx) (d : D) (items : List D) : Prop := ∀ g σ (s : Shared) v, At Γ g σ s.heap → RepV Γ.toWd g s.heap d v →
  wpAny (model Γ.prog Γ.w) Γ.A (pyIter v) (PostI Γ g items s) NoE s

/-- places that no state bears: a walk's own, a list in the making -/
structure Apart (Γ : Cx) (hd : List Addr) (h₀ : Heap) : Prop where
  mu : ∀ b ∈ hd, b ∉ Γ.mu
  base : ∀ b ∈ hd, Γ.base.get? b = none
  cell : ∀ b ∈ hd, ∀ x c, Γ.env.cells.lookup x = some c → c ≠ b
  new : ∀ b ∈ hd, h₀.get? b = none

theorem Apart.of {h₀ : Heap} {hd : List Addr} (a₀ : At Γ g σ h₀) (hw : ∀ b ∈ hd, h₀.get? b = none) : Apart Γ hd h₀ := by
  refine ⟨fun b hb q => not_live (hw b hb) (a₀.up b (.inr (.inr q))), fun b hb => ?_, fun b hb x c hc e => not_live (hw b hb) (e ▸ a₀.cellLive hc), hw⟩
  cases e : Γ.base.get? b with
  | none => rfl
  | some o => have := hw b hb; rw [a₀.keep b o e] at this; cases this

/-- the loop's state between two turns -/
structure LoopAt (Γ : Cx) (g₀ : Gh) (h₀ : Heap) (hd : List Addr) (g : Gh) (σ : St) (h : Heap) : Prop where
  t : Tr Γ g₀ h₀ g h
  a : At Γ g σ h
  lw : ∀ b ∈ hd, (h.get? b).isSome = true
  off : ∀ b ∈ hd, ¬ g.z b ∧ b ∉ g.al

/-- after a turn's body, what lies apart is as it was -/
theorem LoopAt.turn {g₀ : Gh} {h₀ : Heap} {hd : List Addr} {g' : Gh} {σ' : St} {h h' : Heap} (ap : Apart Γ hd h₀) (L : LoopAt Γ g₀ h₀ hd g σ h) (t₂ : Tr Γ g h g' h') (a' : At Γ g' σ' h') :
    LoopAt Γ g₀ h₀ hd g' σ' h' ∧ ∀ b ∈ hd, ∀ o, h.get? b = some o → h'.get? b = some o := by
  have kw : ∀ b ∈ hd, ∀ o, h.get? b = some o → h'.get? b = some o := fun b hb o e => t₂.kp b o (ap.mu b hb) (L.off b hb).2 e
  refine ⟨⟨L.t.trans t₂, a', fun b hb => t₂.lv b (L.lw b hb), fun b hb => ⟨fun z => ?_, fun q => ?_⟩⟩, kw⟩
  · rcases t₂.fz b z with q | q | ⟨i, _, q⟩
    · exact (L.off b hb).1 q
    · exact not_live q (L.lw b hb)
    · exact (L.off b hb).2 (List.mem_of_getElem? q)
  · obtain ⟨new, e, l⟩ := t₂.al
    rw [e] at q
    rcases List.mem_append.mp q with q | q
    · exact (L.off b hb).2 q
    · exact not_live (l b q) (L.lw b hb)
/-- what lies apart is moved -/
theorem LoopAt.hid {g₀ : Gh} {h₀ : Heap} {hd : List Addr} {h h' : Heap} (ap : Apart Γ hd h₀) (L : LoopAt Γ g₀ h₀ hd g σ h) (hk : ∀ b o, b ∉ hd → h.get? b = some o → h'.get? b = some o) (lw : ∀ b ∈ hd, (h'.get? b).isSome = true) :
    LoopAt Γ g₀ h₀ hd g σ h' :=
  ⟨L.t.off ap.new hk, L.a.off (fun b hb => ⟨(L.off b hb).1, (L.off b hb).2, ap.mu b hb, ap.base b hb, ap.cell b hb⟩) hk, lw, L.off⟩

/-- taking the next item -/
theorem LoopAt.next {g₀ : Gh} {s₀ s₁ : Shared} {hd fp wr : List Addr} {n : Nat} {I : Addr} {P : Nat → Value → Prop} {Sx : Nat → Heap → Prop} {i : Nat} {h : Heap}
    {items : List D} {h₁ : Heap} (X : Iter Γ g₀ items s₀ I fp wr n P Sx h₁) (hsub : ∀ b ∈ wr, b ∈ hd) (ap : Apart Γ hd s₀.heap) (L : LoopAt Γ g₀ s₀.heap hd g σ h) (hs : s₁.heap = h) (st : Sx i h) {Q : Option Value → Shared → Prop} {X' : Value → Shared → Prop} (hi : i ≤ n)
    (hlt : i < n → ∀ v d h' tk', items[i]? = some d → Rep Γ.toWd h' g.z d v → LoopAt Γ g₀ s₀.heap hd g σ h' → Sx (i + 1) h' → (∀ b o, b ∉ wr → h.get? b = some o → h'.get? b = some o) → Q (some v) { s₁ with heap := h', toks := tk' })
    (hge : i = n → ∀ h' tk', Tr Γ g₀ s₀.heap g h' → At Γ g σ h' → (∀ b o, b ∉ wr → h.get? b = some o → h'.get? b = some o) → Q none { s₁ with heap := h', toks := tk' }) :
    wpAny (model Γ.prog Γ.w) Γ.A (pyNext (.ref I)) Q X' s₁ := by
  subst hs
  by_cases q : i < n
  · refine X.W.item i _ Q X' q st fun v h' tk' hp st' hk => ?_
    obtain ⟨d, hd', r⟩ := X.item i v q hp
    have hk' : ∀ b o, b ∉ hd → s₁.heap.get? b = some o → h'.get? b = some o := fun b o hb e => hk b o (fun m => hb (hsub b m)) e
    have L' := L.hid ap hk' (fun b hb => by
      by_cases m : b ∈ wr
      · exact X.lv _ _ st' b m
      · obtain ⟨o, e⟩ := Option.isSome_iff_exists.mp (L.lw b hb)
        exact live_of (hk b o m e))
    exact hlt q v d h' tk' hd' (Rep.mono L'.t.z L'.t.kz _ r) L' st' hk
  · have e : i = n := by lia
    refine X.W.done _ Q X' (e ▸ st) fun h' tk' hk => ?_
    have hk' : ∀ b o, b ∉ hd → s₁.heap.get? b = some o → h'.get? b = some o := fun b o hb e => hk b o (fun m => hb (hsub b m)) e
    exact hge e h' tk' (L.t.off ap.new hk') (L.a.off (fun b hb => ⟨(L.off b hb).1, (L.off b hb).2, ap.mu b hb, ap.base b hb, ap.cell b hb⟩) hk') hk

theorem Tr.kept {h h' : Heap} (hk : Kept h h') : Tr Γ g h g h' :=
  ⟨fun _ z => z, ⟨[], by simp, by simp⟩, fun a q => .inl q, fun a o _ e => hk a o e, fun a o _ _ e => hk a o e, fun a q => by
    obtain ⟨o, e⟩ := Option.isSome_iff_exists.mp q; exact live_of (hk a o e)⟩

theorem LoopAt.start {h₀ h : Heap} {hd : List Addr} (a : At Γ g σ h₀) (hk : Kept h₀ h) (hn : ∀ b ∈ hd, h₀.get? b = none) (hl : ∀ b ∈ hd, (h.get? b).isSome = true) : LoopAt Γ g h₀ hd g σ h :=
  ⟨Tr.kept hk, a.move hk, hl, fun b hb => ⟨fun z => not_live (hn b hb) (a.up b (.inl z)), fun q => not_live (hn b hb) (a.up b (.inr (.inl q)))⟩⟩

abbrev QBody (Γ : Cx) (body : List Stmt) (J : St → Prop) (Q : Out → St → Prop) (σ : St) : Prop := WX Γ NoX body (Turn J Q) σ
inductive QFor (Γ : Cx) (target : Expr) (body : List Stmt) (Q : Out → St → Prop) (d : D) (σ₁ : St) : Prop
  | mk (items : List D) (J : Nat → St → Prop) (ok : ItOk Γ d items) (j0 : J 0 σ₁)
      (turn : ∀ (i : Nat) e σ₂, items[i]? = some e → J i σ₂ → WAsg Γ target e (QBody Γ body (J (i + 1)) Q) σ₂)
      (fin : ∀ σ₂, J items.length σ₂ → Q .next σ₂)
inductive QForK (Γ : Cx) (target : Expr) (body : List Stmt) (Q : Out → St → Prop) (d : D) (σ₁ : St) : Prop
  | mk (items : List D) (J : Nat → St → Prop) (ok : ItOk Γ d items) (j0 : J 0 σ₁)
      (turn : ∀ (i : Nat) e σ₂, items[i]? = some e → J i σ₂ → ∀ K R, (∀ σ', J (i + 1) σ' → K σ') → (∀ o σ', Q o σ' → R o σ') → WAsg Γ target e (QBody Γ body K R) σ₂)
      (fin : ∀ σ₂, J items.length σ₂ → Q .next σ₂)
inductive LoopJ (Γ : Cx) (g₁ : Gh) (h₁ : Heap) (wr : List Addr) (n : Nat) (Sx : Nat → Heap → Prop) (J : Nat → St → Prop) (s : Shared) (k : Nat) (s' : Shared) : Prop
  | mk (i : Nat) (g' : Gh) (σ' : St) (h' : Heap) (tk' : Nat) (j1 : k = n - i) (j2 : i ≤ n) (j3 : s' = { s with heap := h', toks := tk' }) (j4 : LoopAt Γ g₁ h₁ wr g' σ' h') (j5 : Sx i h') (j6 : J i σ')
theorem WS.for_ {target iter : Expr} {body : List Stmt} {pos : Pos} {Q : Out → St → Prop}
    (h : WE Γ iter (QFor Γ target body Q) σ)
    (hfold : ∀ v, foldedSetIterable iter Γ.env v = pure v := by intro _; rfl) : WS Γ NoX (.For target iter body [] pos) Q σ := fun g s a => by
  refine wpAny_For (WE.use h a fun v g₁ σ₁ d h₁ tk₁ t₁ a₁ r₁ q => ?_) hfold
  obtain ⟨items, J, ok, j0, turn, fin⟩ := q
  refine wpAny_mono (ok g₁ σ₁ _ v a₁ r₁) (fun it s' p => ?_) fun _ _ f => f.elim
  obtain ⟨I, fp, wr, n, P, Sx, h₂, tk₂, rfl, rfl, X⟩ := p
  have ap : Apart Γ wr h₁ := Apart.of a₁ X.new
  refine codeAny_loop' rfl (LoopJ Γ g₁ h₁ wr n Sx J s) ?_ n
    ⟨0, g₁, σ₁, h₂, tk₂, rfl, Nat.zero_le _, rfl, LoopAt.start a₁ X.kept X.new (X.lv 0 _ X.st), X.st, j0⟩
  rintro k s' ⟨i, g', σ', h', tk', rfl, hi, rfl, L, st, j⟩
  show wpAny _ _ ((forTurn target (.ref I) body [] Γ.env).onRaise (fun x => do noteFrame x Γ.env; theTreesLotGoes x)) _ _ _
  refine wpAny_noted ?_
  simp only [forTurn]
  refine wpAny_bind (wpAny_standAt (wpAny_bind (wpAny_onRaise (LoopAt.next X (fun _ m => m) ap L rfl st hi ?_ ?_))))
  · intro hlt v d h3 tk3 hd' r L3 st3 _
    refine wpAny_bind (X.go (i + 1) _ target v _ _ st3 ?_)
    refine wpAny_bind (wpAny_mono (turn i d σ' hd' j g' _ v L3.a (RepV.of r)) (fun _ s' p => ?_) fun _ _ f => f.elim)
    obtain ⟨g4, σ4, h4, tk4, rfl, t4, a4, w⟩ := p
    obtain ⟨L4, k4⟩ := L3.turn ap t4 a4
    refine wpAny_bind (wpAny_mono (w g4 _ a4) (fun f s' p => ?_) fun _ _ f => f.elim)
    obtain ⟨g5, σ5, o, h5, tk5, rfl, t5, a5, fo, q5⟩ := p
    obtain ⟨L5, k5⟩ := L4.turn ap t5 a5
    have st5 : Sx (i + 1) h5 := X.W.frame _ _ _ st3 fun b hb o e => by
      rcases X.foot b hb with m | m
      · exact k5 b m o (k4 b m o e)
      · exact t5.kz b o (t4.z b (L3.t.z b m)) (t4.kz b o (L3.t.z b m) e)
    cases o with
    | next => have : f = .next := fo; subst this; exact wpAny_pure (.inl ⟨rfl, n - (i + 1), by lia, i + 1, g5, σ5, h5, tk5, rfl, hlt, rfl, L5, st5, q5⟩)
    | cont => have : f = .cont := fo; subst this; exact wpAny_pure (.inl ⟨rfl, n - (i + 1), by lia, i + 1, g5, σ5, h5, tk5, rfl, hlt, rfl, L5, st5, q5⟩)
    | brk => have : f = .brk := fo; subst this; exact wpAny_pure ⟨g5, σ5, .next, h5, tk5, rfl, t₁.trans L5.t, a5, rfl, q5⟩
    | ret d => obtain ⟨v, rfl, rv⟩ := fo; exact wpAny_pure ⟨g5, σ5, .ret d, h5, tk5, rfl, t₁.trans L5.t, a5, ⟨v, rfl, rv⟩, q5⟩
  · intro e h3 tk3 t3 a3 _
    refine wpAny_pure (.inr ⟨rfl, codeAny_block (wpAny_execs_nil ?_)⟩)
    exact ⟨g', σ', .next, h3, tk3, rfl, t₁.trans t3, a3, rfl, fin σ' (by rw [← X.len, ← e]; exact j)⟩

/-- the same, the turn's end hidden -/
theorem WS.forK {target iter : Expr} {body : List Stmt} {pos : Pos} {Q : Out → St → Prop}
    (h : WE Γ iter (QForK Γ target body Q) σ)
    (hfold : ∀ v, foldedSetIterable iter Γ.env v = pure v := by intro _; rfl) : WS Γ NoX (.For target iter body [] pos) Q σ :=
  WS.for_ (WE.mono h fun d σ₁ ⟨items, J, a, b, c, e⟩ => ⟨items, J, a, b, fun i x σ₂ hx hj => c i x σ₂ hx hj _ _ (fun _ h => h) (fun _ _ h => h), e⟩) hfold

inductive QLess (J : Nat → St → Prop) (k : Nat) (σ : St) : Prop
  | mk (m : Nat) (l : m < k) (j : J m σ)
structure QWh (Γ : Cx) (Ei : ExPost) (body : List Stmt) (K : St → Prop) (Q : Out → St → Prop) (b : Bool) (σ : St) : Prop where
  t : b = true → WX Γ Ei body (Turn K Q) σ
  f : b = false → Q .next σ
inductive WhileJ (Γ : Cx) (g : Gh) (J : Nat → St → Prop) (s : Shared) (k : Nat) (s' : Shared) : Prop
  | mk (g' : Gh) (σ' : St) (h' : Heap) (tk' : Nat) (j1 : s' = { s with heap := h', toks := tk' }) (j2 : Tr Γ g s.heap g' h') (j3 : At Γ g' σ' h') (j4 : J k σ')
theorem WS.while_ {test : Expr} {body : List Stmt} {pos : Pos} {Q : Out → St → Prop} {Ei : ExPost} (hEi : ExOk Γ Ei) (J : Nat → St → Prop) (n : Nat) (j0 : J n σ)
    (hX : ∀ g s e s', Ei g s e s' → notedBy (model Γ.prog Γ.w) Γ.A Γ.env (fun e s' => cameBackBy (model Γ.prog Γ.w) Γ.A Γ.env (E g s) e s') e s')
    (turn : ∀ k σ', J k σ' → WT Γ test (QWh Γ Ei body (QLess J k) Q) σ') : WS Γ E (.While test body [] pos) Q σ := fun g s a => by
  refine wpAny_While (codeAny_whileLoop (WhileJ Γ g J s) ?_ n ⟨g, σ, s.heap, s.toks, rfl, Tr.refl .., a, j0⟩)
  rintro k s' ⟨g', σ', h', tk', rfl, t, a', j⟩
  refine WT.use (turn k σ' j) a' fun b g₁ σ₁ h₁ tk₁ t₁ a₁ q => ?_
  cases b with
  | false =>
    simp only [Bool.false_eq_true, if_false]
    exact wpAny_execs_nil ⟨g₁, σ₁, .next, h₁, tk₁, rfl, t.trans t₁, a₁, rfl, q.2 rfl⟩
  | true =>
    simp only [if_true]
    refine wpAny_mono (q.1 rfl g₁ _ a₁) (fun f s' p => ?_) fun e s' x => hX g s e s' (hEi _ _ _ _ _ _ _ (t.trans t₁) x)
    obtain ⟨g5, σ5, o, h5, tk5, rfl, t5, a5, fo, q5⟩ := p
    have tt := (t.trans t₁).trans t5
    cases o with
    | next => have : f = .next := fo; subst this; obtain ⟨m, hm, jm⟩ := q5; exact ⟨m, hm, g5, σ5, h5, tk5, rfl, tt, a5, jm⟩
    | cont => have : f = .cont := fo; subst this; obtain ⟨m, hm, jm⟩ := q5; exact ⟨m, hm, g5, σ5, h5, tk5, rfl, tt, a5, jm⟩
    | brk => have : f = .brk := fo; subst this; exact ⟨g5, σ5, .next, h5, tk5, rfl, tt, a5, rfl, q5⟩
    | ret d => obtain ⟨v, rfl, rv⟩ := fo; exact ⟨g5, σ5, .ret d, h5, tk5, rfl, tt, a5, ⟨v, rfl, rv⟩, q5⟩
/-- the same, the turn's end hidden -/
theorem WS.whileK {test : Expr} {body : List Stmt} {pos : Pos} {Q : Out → St → Prop} {Ei : ExPost} (hEi : ExOk Γ Ei) (J : Nat → St → Prop) (n : Nat) (j0 : J n σ)
    (hX : ∀ g s e s', Ei g s e s' → notedBy (model Γ.prog Γ.w) Γ.A Γ.env (fun e s' => cameBackBy (model Γ.prog Γ.w) Γ.A Γ.env (E g s) e s') e s')
    (turn : ∀ k σ', J k σ' → ∀ K R, (∀ σ₂, QLess J k σ₂ → K σ₂) → (∀ o σ₂, Q o σ₂ → R o σ₂) → WT Γ test (QWh Γ Ei body K R) σ') : WS Γ E (.While test body [] pos) Q σ :=
  WS.while_ hEi J n j0 hX fun k σ' hj => turn k σ' hj _ _ (fun _ h => h) (fun _ _ h => h)
end
end Mine

namespace Mine

theorem closureFor_of {env : Env} : ∀ (names : List (Str × NameKind)) (cs : List (Str × Addr)) (k : List (Str × Addr) → Sem (List (Str × Addr))),
    (∀ y ∈ names, y.2 = .free → ∃ c, env.cells.lookup y.1 = some c) → (∀ x c, cs.lookup x = some c → env.cells.lookup x = some c) →
    ∃ cl : List (Str × Addr), (∀ x c, cl.lookup x = some c → env.cells.lookup x = some c) ∧ (∀ x c, cs.lookup x = some c → ∃ c, cl.lookup x = some c) ∧ (∀ y ∈ names, y.2 = .free → ∃ c, cl.lookup y.1 = some c) ∧
      (forIn names cs (fun (x : Str × NameKind) (cs : List (Str × Addr)) => match x with
        | (name, kind) => if (kind == NameKind.free) = true then do let c ← cellOf env name; pure (ForInStep.yield ((name, c) :: cs)) else pure (ForInStep.yield cs)) >>= k) = k cl
  | [], cs, k, _, h => ⟨cs, h, fun x c e => ⟨c, e⟩, by simp, by rw [List.forIn_nil]; rfl⟩
  | (n, kd) :: r, cs, k, hf, h => by
    by_cases hk : kd = .free
    · subst hk
      obtain ⟨c, hc⟩ := hf (n, .free) List.mem_cons_self rfl
      obtain ⟨cl, h1, h2, h3, h4⟩ := closureFor_of r ((n, c) :: cs) k (fun y hy => hf y (List.mem_cons_of_mem _ hy)) (fun x c' e => by
        rw [List.lookup_cons] at e
        cases q : x == n with
        | true => rw [q] at e; cases e; rw [beq_iff_eq.mp q]; exact hc
        | false => rw [q] at e; exact h x c' e)
      refine ⟨cl, h1, fun x c' e => ?_, fun y hy hfy => ?_, ?_⟩
      · by_cases q : x = n
        · subst q; exact h2 x c (by rw [List.lookup_cons]; simp)
        · exact h2 x c' (by rw [List.lookup_cons]; simpa [beq_eq_false_iff_ne.mpr q] using e)
      · rcases List.mem_cons.mp hy with q | q
        · subst q; exact h2 n c (by rw [List.lookup_cons]; simp)
        · exact h3 y q hfy
      · rw [List.forIn_cons]
        simp only [beq_self_eq_true, if_true]
        have e : cellOf env n = pure c := by unfold cellOf; rw [hc]
        rw [e]
        simpa using h4
    · obtain ⟨cl, h1, h2, h3, h4⟩ := closureFor_of r cs k (fun y hy => hf y (List.mem_cons_of_mem _ hy)) h
      refine ⟨cl, h1, h2, fun y hy hfy => ?_, ?_⟩
      · rcases List.mem_cons.mp hy with q | q
        · subst q; exact absurd hfy hk
        · exact h3 y q hfy
      · rw [List.forIn_cons]
        have : (kd == NameKind.free) = false := by simpa using hk
        simp only [this, Bool.false_eq_true, if_false]
        simpa using h4

theorem closure_ex {scope : Scope} {env : Env} (hf : ∀ y ∈ scope.names, y.2 = .free → ∃ c, env.cells.lookup y.1 = some c) :
    ∃ cl : List (Str × Addr), closureFor scope env = pure cl ∧ (∀ x c, cl.lookup x = some c → env.cells.lookup x = some c) ∧ (∀ y ∈ scope.names, y.2 = .free → ∃ c, cl.lookup y.1 = some c) := by
  obtain ⟨cl, h1, _, h3, h4⟩ := closureFor_of (env := env) scope.names [] (fun cs => pure cs) hf (by simp)
  exact ⟨cl, h4, h1, h3⟩

def Cx.comp (Γ : Cx) (scope : Scope) (cl : List (Str × Addr)) (C : Addr) : Cx := { Γ with env := compEnvC scope cl C Γ.env, mu := [C] }

theorem relabel_cell {env : Env} : ∀ {names : List (Str × NameKind)} {x : Str}, (∀ y ∈ names, y.2 ≠ .cell) →
    (names.map fun (n, k) => if (k == NameKind.free && env.scope.kind == .function && env.kindOf n == some .cell) then (n, NameKind.cell) else (n, k)).lookup x = some .cell → (x, NameKind.free) ∈ names ∧ env.kindOf x = some .cell
  | [], _, _, h => by simp at h
  | (n, k) :: r, x, hc, h => by
    have h' : List.lookup x ((if (k == NameKind.free && env.scope.kind == .function && env.kindOf n == some .cell) = true then (n, NameKind.cell) else (n, k)) :: _) = some .cell := h
    by_cases q : (k == NameKind.free && env.scope.kind == .function && env.kindOf n == some .cell) = true
    · rw [if_pos q, List.lookup_cons] at h'
      cases e : x == n with
      | true =>
        simp only [Bool.and_eq_true, beq_iff_eq] at q
        rw [beq_iff_eq.mp e, q.1.1]; exact ⟨List.mem_cons_self, q.2⟩
      | false => rw [e] at h'; exact (relabel_cell (fun y hy => hc y (List.mem_cons_of_mem _ hy)) h').imp (List.mem_cons_of_mem _) id
    · rw [if_neg q, List.lookup_cons] at h'
      cases e : x == n with
      | true => rw [e] at h'; cases h'; exact absurd rfl (hc (n, .cell) List.mem_cons_self)
      | false => rw [e] at h'; exact (relabel_cell (fun y hy => hc y (List.mem_cons_of_mem _ hy)) h').imp (List.mem_cons_of_mem _) id

section
variable {Γ : Cx} {E : ExPost} {σ : St} {g : Gh} {s : Shared}

theorem At.forget {h : Heap} {σ' : St} (a : At Γ g σ h) (hl : ∀ x d, σ'.loc x = some d → σ.loc x = some d) (ho : σ'.own = σ.own) : At Γ g σ' h :=
  ⟨a.ok, a.keep, let ⟨m, hn, q⟩ := a.loc; ⟨m, hn, fun x d hx => q x d (hl x d hx)⟩, a.cel, by rw [ho]; exact a.len, fun i o hi => a.own i o (by rw [← ho]; exact hi), a.nd, a.mz, a.lo, a.up, a.cz⟩

/-- a place that lay apart is frozen -/
theorem At.addZ {h : Heap} {n : Addr} (a : At Γ g σ h) (hl : (h.get? n).isSome = true) (h1 : n ∉ g.al) (h2 : n ∉ Γ.mu) (h3 : ∀ x c, Γ.env.cells.lookup x = some c → c ≠ n) : At Γ (g.freeze n) σ h := by
  refine ⟨a.ok, a.keep, ?_, a.cel, a.len, ?_, a.nd, ?_, a.lo, ?_, ?_⟩
  · obtain ⟨m, hn, q⟩ := a.loc
    exact ⟨m, hn, fun x d hx => let ⟨v, hv, r⟩ := q x d hx; ⟨v, hv, RepV.mono (g' := g.freeze n) (fun _ z => Or.inl z) (fun _ _ _ e => e) (fun _ _ e => e) r⟩⟩
  · intro i o hi
    obtain ⟨b, hb, r, z⟩ := a.own i o hi
    refine ⟨b, hb, r.mono (fun _ z => .inl z) (fun _ _ _ e => e) (fun _ e => e), fun hd q => ?_⟩
    rcases q with q | q
    · exact z hd q
    · subst q; exact h1 (List.mem_of_getElem? hb)
  · intro b hb
    refine ⟨fun q => ?_, (a.mz b hb).2⟩
    rcases q with q | q
    · exact (a.mz b hb).1 q
    · subst q; exact h2 hb
  · rintro b ((q | q) | q)
    · exact a.up b (.inl q)
    · subst q; exact hl
    · exact a.up b (.inr q)
  · intro x c hc
    refine ⟨fun q => ?_, (a.cz x c hc).2⟩
    rcases q with q | q
    · exact (a.cz x c hc).1 q
    · exact h3 x c hc q
theorem Tr.addZ {g' : Gh} {h h' : Heap} {n : Addr} (t : Tr Γ g h g' h') (hn : h.get? n = none) : Tr Γ g h (g'.freeze n) h' :=
  ⟨fun a z => .inl (t.z a z), t.al, fun a q => q.elim (fun q => t.fz a q) fun q => .inr (.inl (q ▸ hn)), t.kz, t.kp, t.lv⟩

def Gh.addOwn (g : Gh) (n : Addr) : Gh := { g with al := g.al ++ [n] }
/-- a place that lay apart becomes the frame's own -/
theorem At.addOwn {h : Heap} {n : Addr} {o : OO} (a : At Γ g σ h) (hl : (h.get? n).isSome = true) (h0 : ¬ g.z n) (h1 : n ∉ g.al) (h2 : n ∉ Γ.mu) (h3 : ∀ x c, Γ.env.cells.lookup x = some c → c ≠ n) (h4 : Γ.base.get? n = none) (r : OwnRep Γ.toWd h g.z n o) :
    At Γ (g.addOwn n) { σ with own := σ.own ++ [o] } h := by
  have alk : ∀ (i : Nat) (x : Addr), g.al[i]? = some x → (g.addOwn n).al[i]? = some x := fun i x e => by
    show (g.al ++ [n])[i]? = some x
    rw [List.getElem?_append_left (List.getElem?_eq_some_iff.mp e).1]; exact e
  refine ⟨a.ok, a.keep, ?_, a.cel, ?_, ?_, ?_, ?_, ?_, ?_, ?_⟩
  · obtain ⟨m, hn, hl⟩ := a.loc
    exact ⟨m, hn, fun x d hx => let ⟨v, hv, r⟩ := hl x d hx; ⟨v, hv, RepV.mono (g := g) (g' := g.addOwn n) (fun _ z => z) (fun _ _ _ e => e) alk r⟩⟩
  · show (g.al ++ [n]).length = (σ.own ++ [o]).length
    simp [a.len]
  · intro i o' hi
    have hi' : (σ.own ++ [o])[i]? = some o' := hi
    by_cases hl : i < σ.own.length
    · rw [List.getElem?_append_left hl] at hi'
      obtain ⟨x, hx, r, z⟩ := a.own i o' hi'
      exact ⟨x, alk i x hx, r, z⟩
    · rw [List.getElem?_append_right (Nat.le_of_not_lt hl)] at hi'
      have : i - σ.own.length = 0 := by
        cases q : i - σ.own.length with
        | zero => rfl
        | succ j => rw [q] at hi'; simp at hi'
      rw [this] at hi'; simp at hi'; subst hi'
      refine ⟨n, ?_, r, fun _ q => h0 q⟩
      show (g.al ++ [n])[i]? = some n
      have e : i = g.al.length := by rw [a.len]; lia
      rw [e]; simp
  · show (g.al ++ [n]).Nodup
    rw [List.nodup_append]
    exact ⟨a.nd, by simp, fun x hx y hy e => by simp at hy; subst hy; exact h1 (e ▸ hx)⟩
  · intro x hx
    refine ⟨(a.mz x hx).1, fun q => ?_⟩
    rcases List.mem_append.mp q with q | q
    · exact (a.mz x hx).2 q
    · simp at q; subst q; exact h2 hx
  · rintro x (q | q)
    · rcases List.mem_append.mp q with q | q
      · exact a.lo x (.inl q)
      · simp at q; subst q; exact h4
    · exact a.lo x (.inr q)
  · rintro x (q | q | q)
    · exact a.up x (.inl q)
    · rcases List.mem_append.mp q with q | q
      · exact a.up x (.inr (.inl q))
      · simp at q; subst q; exact hl
    · exact a.up x (.inr (.inr q))
  · intro x c hc
    refine ⟨(a.cz x c hc).1, fun q => ?_⟩
    rcases List.mem_append.mp q with q | q
    · exact (a.cz x c hc).2 q
    · simp at q; exact h3 x c hc q
theorem Tr.addOwn {g' : Gh} {h h' : Heap} {n : Addr} (t : Tr Γ g h g' h') (hn : h.get? n = none) : Tr Γ g h (g'.addOwn n) h' := by
  obtain ⟨new, e, l⟩ := t.al
  refine ⟨t.z, ⟨new ++ [n], by show g'.al ++ [n] = _; rw [e, List.append_assoc], fun a ha => ?_⟩, t.fz, t.kz, t.kp, t.lv⟩
  rcases List.mem_append.mp ha with q | q
  · exact l a q
  · simp at q; subst q; exact hn

/-- the tests of a comprehension -/
noncomputable def WIfs (Γ : Cx) : List Expr → (Bool → St → Prop) → St → Prop
  | [], Q, σ => Q true σ
  | c :: r, Q, σ => WT Γ c (fun b σ₁ => (b = true → WIfs Γ r Q σ₁) ∧ (b = false → Q false σ₁)) σ

def testsTree (ifs : List Expr) (env : Env) (b : Bool) : Sem Bool := forIn ifs b fun c r => if r = true then do let ok ← isTrue c env (eval c env); pure (ForInStep.yield ok) else pure (ForInStep.yield r)
theorem tests_false (env : Env) : ∀ ifs : List Expr, testsTree ifs env false = pure false
  | [] => by unfold testsTree; rw [List.forIn_nil]
  | c :: r => by
    unfold testsTree; rw [List.forIn_cons]
    simp only [Bool.false_eq_true, if_false]
    exact tests_false env r
theorem WIfs.use : ∀ (ifs : List Expr) {Q : Bool → St → Prop} {σ : St}, WIfs Γ ifs Q σ → ∀ g (s : Shared), At Γ g σ s.heap → wpAny (model Γ.prog Γ.w) Γ.A (testsTree ifs Γ.env true) (PostT Γ g s Q) NoE s
  | [], Q, σ, w, g, s, a => by unfold testsTree; rw [List.forIn_nil]; exact wpAny_pure ⟨g, σ, s.heap, s.toks, rfl, Tr.refl .., a, w⟩
  | c :: r, Q, σ, w, g, s, a => by
    unfold testsTree; rw [List.forIn_cons]
    simp only [if_true]
    refine wpAny_bind (wpAny_bind (WT.use w a fun b g' σ' h' tk t a' q => wpAny_pure ?_))
    cases b with
    | true => exact wpAny_mono (WIfs.use r (q.1 rfl) g' _ a') (fun _ _ p => PostT.tr t p) fun _ _ f => f
    | false =>
      show wpAny _ _ (testsTree r Γ.env false) _ _ _
      rw [tests_false]
      exact wpAny_pure ⟨g', σ', h', tk, rfl, t, a', q.2 rfl⟩

/-- leaving an inner frame whose places were new -/
theorem At.leave {Γ' : Cx} {g' : Gh} {σ' : St} {h₀ h' h'' : Heap} (hw : Γ'.toWd = Γ.toWd) (hb : Γ'.base = Γ.base) (hk : Γ'.k = Γ.k) (a : At Γ g σ h₀) (t : Tr Γ' g h₀ g' h') (a' : At Γ' g' σ' h')
    (hmu : ∀ b ∈ Γ'.mu, h₀.get? b = none) (hs : ∀ b o, b ∉ Γ'.mu → h'.get? b = some o → h''.get? b = some o) :
    At Γ g' { σ with own := σ'.own } h'' ∧ Tr Γ g h₀ g' h'' := by
  have live : ∀ b, (h₀.get? b).isSome = true → b ∉ Γ'.mu := fun b l q => not_live (hmu b q) l
  have kz : ∀ b o, g.z b → h₀.get? b = some o → h''.get? b = some o := fun b o z e => hs b o (live b (live_of e)) (t.kz b o z e)
  have kp : ∀ b o, b ∉ g.al → h₀.get? b = some o → h''.get? b = some o := fun b o z e => hs b o (live b (live_of e)) (t.kp b o (live b (live_of e)) z e)
  have kz' : ∀ b o, g'.z b → h'.get? b = some o → h''.get? b = some o := fun b o z e => hs b o (fun q => (a'.mz b q).1 z) e
  have kal' : ∀ b o, b ∈ g'.al → h'.get? b = some o → h''.get? b = some o := fun b o z e => hs b o (fun q => (a'.mz b q).2 z) e
  have lv : ∀ b, (h₀.get? b).isSome = true → (h''.get? b).isSome = true := fun b l => by
    obtain ⟨o, e⟩ := Option.isSome_iff_exists.mp (t.lv b l)
    exact live_of (hs b o (live b l) e)
  obtain ⟨new, ea, ln⟩ := t.al
  have alk : ∀ (i : Nat) (x : Addr), g.al[i]? = some x → g'.al[i]? = some x := fun i x e => by
    rw [ea, List.getElem?_append_left (List.getElem?_eq_some_iff.mp e).1]; exact e
  have tr : Tr Γ g h₀ g' h'' := ⟨t.z, t.al, fun b z => by rw [← hk]; exact t.fz b z, kz, fun b o _ q e => kp b o q e, lv⟩
  refine ⟨⟨a.ok, fun b o e => ?_, ?_, ?_, a'.len, ?_, a'.nd, ?_, ?_, ?_, ?_⟩, tr⟩
  · refine kp b o (fun q => ?_) (a.keep b o e)
    rw [a.lo b (.inl q)] at e; cases e
  · obtain ⟨m, hn, hl⟩ := a.loc
    refine ⟨m, hn.at' fun o e => kp _ o (a.mz _ a.ok.locMu).2 e, fun x d hx => ?_⟩
    obtain ⟨v, hv, r⟩ := hl x d hx
    exact ⟨v, hv.imp id (fun ⟨k, c, hc, o, e, dd⟩ => ⟨k, c, hc, o, kp c o (a.cz x c hc).2 e, dd⟩), RepV.mono t.z kz alk r⟩
  · intro x c hc
    obtain ⟨ov, o, e, dd⟩ := a.cel x c hc
    exact ⟨ov, o, kp c o (a.cz x c hc).2 e, dd⟩
  · intro i o hi
    obtain ⟨b, hb, r, z⟩ := a'.own i o hi
    exact ⟨b, hb, (hw ▸ r : OwnRep Γ.toWd h' g'.z b o).mono (fun _ z => z) kz' (fun o e => kal' b o (List.mem_of_getElem? hb) e), z⟩
  · intro b hb
    have lb := a.up b (.inr (.inr hb))
    refine ⟨fun q => ?_, fun q => ?_⟩
    · rcases t.fz b q with q | q | ⟨i, _, q⟩
      · exact (a.mz b hb).1 q
      · exact not_live q lb
      · exact (a.mz b hb).2 (List.mem_of_getElem? q)
    · rw [ea] at q
      rcases List.mem_append.mp q with q | q
      · exact (a.mz b hb).2 q
      · exact not_live (ln b q) lb
  · rintro b (q | q)
    · rw [← hb]; exact a'.lo b (.inl q)
    · exact a.lo b (.inr q)
  · rintro b (q | q | q)
    · obtain ⟨o, e⟩ := Option.isSome_iff_exists.mp (a'.up b (.inl q)); exact live_of (kz' b o q e)
    · obtain ⟨o, e⟩ := Option.isSome_iff_exists.mp (a'.up b (.inr (.inl q))); exact live_of (kal' b o q e)
    · exact lv b (a.up b (.inr (.inr q)))
  · intro x c hc
    have lb := a.cellLive hc
    refine ⟨fun q => ?_, fun q => ?_⟩
    · rcases t.fz c q with q | q | ⟨i, _, q⟩
      · exact (a.cz x c hc).1 q
      · exact not_live q lb
      · exact (a.cz x c hc).2 (List.mem_of_getElem? q)
    · rw [ea] at q
      rcases List.mem_append.mp q with q | q
      · exact (a.cz x c hc).2 q
      · exact not_live (ln c q) lb
end
end Mine

namespace Mine

def cloc (Γ : Cx) (scope : Scope) (σ : St) : Str → Option D := fun x => if (relabel scope Γ.env).names.lookup x = some .cell then σ.loc x else none

section
variable {Γ : Cx} {E : ExPost} {σ : St} {g : Gh} {s : Shared}

structure ClOk (Γ : Cx) (scope : Scope) (cl : List (Str × Addr)) : Prop where
  sub : ∀ x c, cl.lookup x = some c → Γ.env.cells.lookup x = some c
  full : ∀ y ∈ scope.names, y.2 = .free → ∃ c, cl.lookup y.1 = some c
  noCell : ∀ y ∈ scope.names, y.2 ≠ .cell
  kind : scope.kind = .function

theorem At.enterComp {scope : Scope} {cl : List (Str × Addr)} {C : Addr} {h₀ h : Heap} {m : Str → Option Value} (K : ClOk Γ scope cl) (a : At Γ g σ h₀) (hk : Kept h₀ h) (hC : h₀.get? C = none) (hn : h.Ns C m) :
    At (Γ.comp scope cl C) g ⟨cloc Γ scope σ, σ.own⟩ h := by
  have b := a.move hk
  have hcl : ∀ x, (relabel scope Γ.env).names.lookup x = some .cell → (x, NameKind.free) ∈ scope.names ∧ Γ.env.kindOf x = some .cell := fun x e => relabel_cell K.noCell e
  have cne : ∀ x c, cl.lookup x = some c → c ≠ C := fun x c e q => not_live hC (q ▸ a.cellLive (K.sub x c e))
  refine ⟨⟨K.kind, a.ok.glob, a.ok.bi, List.mem_singleton.mpr rfl, cne, fun x y c h1 h2 => a.ok.inj x y c (K.sub x c h1) (K.sub y c h2), fun x e => K.full _ (hcl x e).1 rfl, a.ok.hd, a.ok.un, a.ok.dp, a.ok.g, a.ok.b, a.ok.lim, a.ok.fn, a.ok.kin⟩, b.keep, ?_, fun x c e => b.cel x c (K.sub x c e), b.len, b.own, b.nd, ?_, ?_, ?_, fun x c e => b.cz x c (K.sub x c e)⟩
  · refine ⟨m, hn, fun x d hx => ?_⟩
    have hx' : (if (relabel scope Γ.env).names.lookup x = some .cell then σ.loc x else none) = some d := hx
    by_cases q : (relabel scope Γ.env).names.lookup x = some .cell
    · rw [if_pos q] at hx'
      obtain ⟨m', _, hl⟩ := b.loc
      obtain ⟨v, hv, r⟩ := hl x d hx'
      obtain ⟨qf, qk⟩ := hcl x q
      rcases hv with ⟨k, _⟩ | ⟨_, c, hc, hv⟩
      · rw [qk] at k; cases k
      · obtain ⟨c', hc'⟩ := K.full _ qf rfl
        have : c' = c := by have := K.sub x c' hc'; rw [hc] at this; cases this; rfl
        subst this
        exact ⟨v, .inr ⟨q, c', hc', hv⟩, r⟩
    · rw [if_neg q] at hx'; cases hx'
  · intro b hb
    have : b = C := List.mem_singleton.mp hb
    subst this
    exact ⟨fun z => not_live hC (a.up _ (.inl z)), fun z => not_live hC (a.up _ (.inr (.inl z)))⟩
  · rintro x (q | q)
    · exact a.lo x (.inl q)
    · have : x = C := List.mem_singleton.mp q
      subst this
      show Γ.base.get? x = none
      cases e : Γ.base.get? x with
      | none => rfl
      | some o => rw [a.keep x o e] at hC; cases hC
  · rintro x (q | q | q)
    · exact b.up x (.inl q)
    · exact b.up x (.inr (.inl q))
    · have : x = C := List.mem_singleton.mp q
      subst this
      exact ns_live hn

/-- what a frame reads through its cells alone stays, whatever it names since -/
theorem At.reloc {g' : Gh} {σ' : St} {h h' : Heap} (a : At Γ g σ h) (t : Tr Γ g h g' h') (a' : At Γ g' σ' h') (hc : ∀ x d, σ.loc x = some d → Γ.env.kindOf x = some .cell) (hm : ∀ x c, Γ.env.cells.lookup x = some c → c ∉ Γ.mu) : At Γ g' ⟨σ.loc, σ'.own⟩ h' := by
  refine ⟨a'.ok, a'.keep, ?_, a'.cel, a'.len, a'.own, a'.nd, a'.mz, a'.lo, a'.up, a'.cz⟩
  obtain ⟨m', hn', _⟩ := a'.loc
  refine ⟨m', hn', fun x d hx => ?_⟩
  obtain ⟨m, hn, hl⟩ := a.loc
  obtain ⟨v, hv, r⟩ := hl x d hx
  refine ⟨v, .inr ?_, r.tr t⟩
  rcases hv with ⟨k, _⟩ | ⟨k, c, hc', o, e, dd⟩
  · rw [hc x d hx] at k; cases k
  · exact ⟨k, c, hc', o, t.kp c o (hm x c hc') (a.cz x c hc').2 e, dd⟩

structure QElt (ds : List D) (J : List D → List OO → Prop) (d : D) (σ : St) : Prop where
  o : ∀ i, d ≠ .own i
  q : J (ds ++ [d]) σ.own
structure QKeep (Γ : Cx) (elt : Expr) (ds : List D) (J : List D → List OO → Prop) (ok : Bool) (σ : St) : Prop where
  t : ok = true → WE Γ elt (QElt ds J) σ
  f : ok = false → J ds σ.own
abbrev QItem (Γ : Cx) (ifs : List Expr) (elt : Expr) (ds : List D) (J : List D → List OO → Prop) (σ : St) : Prop := WIfs Γ ifs (QKeep Γ elt ds J) σ
def CompTurn (Γ : Cx) (scope : Scope) (target elt : Expr) (ifs : List Expr) (σ : St) (items : List D) (J : Nat → List D → List OO → Prop) : Prop :=
  ∀ cl C (i : Nat) e ds ow, items[i]? = some e → J i ds ow →
    WAsg (Γ.comp scope cl C) target e (QItem (Γ.comp scope cl C) ifs elt ds (J (i + 1))) ⟨cloc Γ scope σ, ow⟩

/-- the end of a comprehension's loop -/
structure CompEnd (Γ : Cx) (scope : Scope) (cl : List (Str × Addr)) (g₁ : Gh) (s₁ : Shared) (Dd C : Addr) (g' : Gh) (σc : St) (ds : List D) (vs : List Value) (h' : Heap) : Prop where
  t : Tr (Γ.comp scope cl C) g₁ s₁.heap g' h'
  a : At (Γ.comp scope cl C) g' σc h'
  lst : h'.PlainList Dd vs.toArray
  r : Reps Γ.toWd h' g'.z ds vs
  newD : s₁.heap.get? Dd = none
  newC : s₁.heap.get? C = none
  ne : Dd ≠ C
  offD : ¬ g'.z Dd ∧ Dd ∉ g'.al

inductive CompJ (Γ : Cx) (scope : Scope) (cl : List (Str × Addr)) (C Dd : Addr) (g : Gh) (σ : St) (wr : List Addr) (n : Nat) (Sx : Nat → Heap → Prop) (J : Nat → List D → List OO → Prop) (s : Shared) (k : Nat) (s' : Shared) : Prop
  | mk (i : Nat) (g' : Gh) (σ' : St) (ds : List D) (vs : List Value) (h' : Heap) (tk' : Nat) (j1 : k = n - i) (j2 : i ≤ n) (j3 : s' = { s with heap := h', toks := tk' }) (j4 : LoopAt (Γ.comp scope cl C) g s.heap (Dd :: wr) g' σ' h') (j5 : Sx i h') (j6 : J i ds σ'.own) (j7 : σ'.loc = cloc Γ scope σ) (j8 : h'.PlainList Dd vs.toArray) (j9 : Reps Γ.toWd h' g'.z ds vs) (j10 : ds.length ≤ i)
theorem comp_block {elt target iter : Expr} {ifs : List Expr} {scope : Scope} {pos : Pos} {cl : List (Str × Addr)} {items : List D} {I : Addr} {fp wr : List Addr} {n : Nat} {P : Nat → Value → Prop} {Sx : Nat → Heap → Prop} {h₂ : Heap} {tk₂ : Nat}
    {J : Nat → List D → List OO → Prop} {RR : Value → Addr → Result → Shared → Prop} {X' : Value → Shared → Prop}
    (K : ClOk Γ scope cl) (a : At Γ g σ s.heap) (X : Iter Γ g items s I fp wr n P Sx h₂) (hz : items.length ≤ sizeLine) (j0 : J 0 [] σ.own) (turn : CompTurn Γ scope target elt ifs σ items J)
    (fin : ∀ Dd C g' σc ds vs h' tk', CompEnd Γ scope cl g s Dd C g' σc ds vs h' → J items.length ds σc.own → RR (.ref Dd) C (.ok .next) { s with heap := h', toks := tk' }) :
    wpAny (model Γ.prog Γ.w) Γ.A (newList []) (fun acc s₃ => wpAny (model Γ.prog Γ.w) Γ.A (newFunctionEnv scope Γ.env.globals cl [] Γ.env.qual none .none (some Γ.env)) (fun cenv s₄ =>
      codeAny (model Γ.prog Γ.w) Γ.A (.compStart (.ListComp elt [⟨target, iter, ifs, 0⟩] scope pos) 0 (.ref I) acc { cenv with scope := relabel scope Γ.env }) (RR acc cenv.locals) s₄) X' s₃) X' { s with heap := h₂, toks := tk₂ } := by
  refine wpAny_newObj_type (wpAny_newFunctionEnv K.noCell (by intro y hy; simp at hy) (fun h₁ hns₁ hsb₁ => ?_) K.kind)
  dsimp only at hns₁ hsb₁ ⊢
  generalize hH2 : h₂.push { cls := .type "list", dict := none, data := .seq ([] : List Value).toArray } = H2 at hns₁ hsb₁ ⊢
  generalize hD : h₂.objs.size = Dd
  generalize hCC : H2.objs.size = C at hns₁ hsb₁ ⊢
  have eC : C = Dd + 1 := by rw [← hCC, ← hD, ← hH2, Heap.size_push]
  have ne : Dd ≠ C := by rw [eC]; exact Nat.ne_of_lt (Nat.lt_succ_self _)
  have k2 : Kept h₂ h₁ := fun b o e => by
    have hlt := Heap.lt_size e
    refine hsb₁.extBut b o (by rw [eC, ← hD]; exact Nat.ne_of_lt (Nat.lt_succ_of_lt hlt)) (Heap.get?_push_of_some _ (hH2 ▸ Heap.get?_push_of_some _ e))
  have k1 : Kept s.heap h₁ := fun b o e => k2 b o (X.kept b o e)
  have nD : s.heap.get? Dd = none := by
    cases e : s.heap.get? Dd with
    | none => rfl
    | some o => have := Heap.lt_size (X.kept _ _ e); rw [hD] at this; exact absurd this (Nat.lt_irrefl _)
  have nC : s.heap.get? C = none := by
    cases e : s.heap.get? C with
    | none => rfl
    | some o => have := Heap.lt_size (X.kept _ _ e); rw [hD, eC] at this; exact absurd (Nat.lt_of_succ_lt this) (Nat.lt_irrefl _)
  have pD : h₁.PlainList Dd #[] := ⟨_, hsb₁.extBut _ _ ne (Heap.get?_push_of_some _ (by rw [← hD, ← hH2]; exact Heap.get?_push_size _ rfl))⟩
  have ap : Apart (Γ.comp scope cl C) (Dd :: wr) s.heap := by
    have hn : ∀ b ∈ Dd :: wr, s.heap.get? b = none := fun b hb => by
      rcases List.mem_cons.mp hb with q | q
      · subst q; exact nD
      · exact X.new b q
    have p := Apart.of a hn
    refine ⟨fun b hb q => ?_, p.base, fun b hb x c hc => p.cell b hb x c (K.sub x c hc), hn⟩
    have q : b = C := List.mem_singleton.mp q
    rcases List.mem_cons.mp hb with e | e
    · exact ne (e ▸ q)
    · have l := X.lv 0 _ X.st b e
      obtain ⟨o, eo⟩ := Option.isSome_iff_exists.mp l
      have := Heap.lt_size eo
      rw [q, eC, hD] at this
      exact absurd (Nat.lt_of_succ_lt this) (Nat.lt_irrefl _)
  have st1 : Sx 0 h₁ := X.W.frame _ _ _ X.st fun b _ o e => k2 b o e
  have a1 : At (Γ.comp scope cl C) g ⟨cloc Γ scope σ, σ.own⟩ h₁ := a.enterComp K k1 nC hns₁
  have L0 : LoopAt (Γ.comp scope cl C) g s.heap (Dd :: wr) g ⟨cloc Γ scope σ, σ.own⟩ h₁ := by
    refine ⟨Tr.kept k1, a1, fun b hb => ?_, fun b hb => ⟨fun z => not_live (ap.new b hb) (a.up b (.inl z)), fun q => not_live (ap.new b hb) (a.up b (.inr (.inl q)))⟩⟩
    rcases List.mem_cons.mp hb with q | q
    · subst q; obtain ⟨n, e⟩ := pD; exact live_of e
    · exact X.lv 0 _ st1 b q
  have Xc : Iter (Γ.comp scope cl C) g items s I fp wr n P Sx h₂ := ⟨X.W, X.st, X.kept, X.new, X.lv, X.foot, X.len, X.item, X.go⟩
  have loop : ∀ s₃ : Shared, s₃ = { s with heap := h₁, toks := tk₂ + ([] : List (Str × Value)).length } →
      codeAny (model Γ.prog Γ.w) Γ.A (.compLoop (.ListComp elt [⟨target, iter, ifs, 0⟩] scope pos) 0 (.ref I) (.ref Dd) (compEnvC scope cl C Γ.env)) (RR (.ref Dd) C) s₃ := by
    rintro s₃ rfl
    refine codeAny_loop rfl (CompJ Γ scope cl C Dd g σ wr n Sx J s) ?_ n
      ⟨0, g, _, [], [], h₁, tk₂ + 0, rfl, Nat.zero_le _, rfl, L0, st1, j0, rfl, pD, rfl, Nat.le_refl _⟩
    rintro k s' ⟨i, g', σ', ds, vs, h', tk', rfl, hi, rfl, L, st, j, hloc, pl, rs, hlen⟩
    show wpAny _ Γ.A ((compTurn (.ListComp elt [⟨target, iter, ifs, 0⟩] scope pos) 0 (.ref I) (.ref Dd) (compEnvC scope cl C Γ.env)).onRaise (fun x => do noteFrame x (compEnvC scope cl C Γ.env); theTreesLotGoes x)) _ _ _
    refine wpAny_noted ?_
    rw [compTurn_list]
    refine wpAny_bind (wpAny_standAt (wpAny_bind (LoopAt.next Xc (fun b m => List.mem_cons_of_mem _ m) ap L rfl st hi ?_ ?_)))
    · intro hlt v d h3 tk3 hd' r L3 st3 kept3
      have hDw : Dd ∉ wr := fun q => by
        have l := X.lv 0 _ X.st Dd q
        obtain ⟨o, eo⟩ := Option.isSome_iff_exists.mp l
        have := Heap.lt_size eo
        rw [hD] at this
        exact absurd this (Nat.lt_irrefl _)
      have pl3 : h3.PlainList Dd vs.toArray := pl.at fun o e => kept3 _ _ hDw e
      have rs3 : Reps Γ.toWd h3 g'.z ds vs := Reps.mono (fun _ z => z) (fun b o z e => kept3 b o (fun q => (L.off b (List.mem_cons_of_mem _ q)).1 z) e) _ rs
      refine wpAny_bind (X.go (i + 1) _ target v _ _ st3 ?_)
      have aF : At (Γ.comp scope cl C) g' ⟨cloc Γ scope σ, σ'.own⟩ h3 := L3.a.forget (fun x d e => by rw [hloc]; exact e) rfl
      have hcl : ∀ x d, cloc Γ scope σ x = some d → (Γ.comp scope cl C).env.kindOf x = some .cell := fun x d e => by
        unfold cloc at e
        by_cases q : (relabel scope Γ.env).names.lookup x = some .cell
        · exact q
        · rw [if_neg q] at e; cases e
      have hmu : ∀ x c, (Γ.comp scope cl C).env.cells.lookup x = some c → c ∉ (Γ.comp scope cl C).mu := fun x c e q => aF.ok.cellL x c e (List.mem_singleton.mp q)
      refine wpAny_bind (wpAny_mono (turn cl C i d ds σ'.own hd' j g' _ v aF (RepV.of r)) (fun _ s' p => ?_) fun _ _ f => f.elim)
      obtain ⟨g4, σ4, h4, tk4, rfl, t4, a4, w⟩ := p
      obtain ⟨L4, k4⟩ := LoopAt.turn ap ⟨L3.t, aF, L3.lw, L3.off⟩ t4 a4
      refine wpAny_bind (wpAny_mono (WIfs.use ifs w g4 { s with heap := h4, toks := tk4 } a4) (fun ok s' p => ?_) fun _ _ f => f.elim)
      obtain ⟨g5, σ5, h5, tk5, rfl, t5, a5, q5⟩ := p
      obtain ⟨L5, k5⟩ := L4.turn ap t5 a5
      have fr : ∀ {h6 : Heap} {g6 : Gh}, (∀ b ∈ Dd :: wr, ∀ o, h5.get? b = some o → h6.get? b = some o) → (∀ b o, g5.z b → h5.get? b = some o → h6.get? b = some o) → Sx (i + 1) h6 := fun k6 z6 => X.W.frame _ _ _ st3 fun b hb o e => by
        rcases X.foot b hb with m | m
        · exact k6 b (List.mem_cons_of_mem _ m) o (k5 b (List.mem_cons_of_mem _ m) o (k4 b (List.mem_cons_of_mem _ m) o e))
        · have z3 := L3.t.z b m
          exact z6 b o (t5.z b (t4.z b z3)) (t5.kz b o (t4.z b z3) (t4.kz b o z3 e))
      have pl5 : h5.PlainList Dd vs.toArray := pl3.at fun o e => k5 _ List.mem_cons_self o (k4 _ List.mem_cons_self o e)
      have rs5 : Reps Γ.toWd h5 g5.z ds vs := Reps.mono t5.z t5.kz _ (Reps.mono t4.z t4.kz _ rs3)
      cases ok with
      | false =>
        simp only [Bool.false_eq_true, if_false]
        refine wpAny_pure ⟨rfl, n - (i + 1), by lia, i + 1, g5, ⟨cloc Γ scope σ, σ5.own⟩, ds, vs, h5, tk5, rfl, hlt, rfl, ⟨L5.t, ?_, L5.lw, L5.off⟩, fr (g6 := g5) (fun _ _ _ e => e) (fun _ _ _ e => e), q5.2 rfl, rfl, pl5, rs5, by lia⟩
        exact aF.reloc (t4.trans t5) a5 hcl hmu
      | true =>
        simp only [if_true]
        refine wpAny_bind (wpAny_bind (WE.use (Γ := Γ.comp scope cl C) (q5.1 rfl) a5 fun y g6 σ6 d6 h6 tk6 t6 a6 r6 q6 => ?_))
        obtain ⟨L6, k6⟩ := L5.turn ap t6 a6
        have pl6 : h6.PlainList Dd vs.toArray := pl5.at fun o e => k6 _ List.mem_cons_self o e
        have rs6 : Reps Γ.toWd h6 g6.z ds vs := Reps.mono t6.z t6.kz _ rs5
        have r6' : Rep Γ.toWd h6 g6.z d6 y := r6.rep q6.1
        refine wpAny_bind (wpAny_list_append_plain (hsz := by rw [List.size_toArray, rs6.length]; have := X.len; lia) pl6 fun h7 pl7 hs7 => wpAny_pure (wpAny_pure ?_))
        have kk : ∀ b o, b ∉ [Dd] → h6.get? b = some o → h7.get? b = some o := fun b o hb e => (hs7.2 b (fun q => hb (List.mem_singleton.mpr q))).trans e
        have kk' : ∀ b o, b ∉ Dd :: wr → h6.get? b = some o → h7.get? b = some o := fun b o hb e => kk b o (fun q => hb (by rw [List.mem_singleton.mp q]; exact List.mem_cons_self)) e
        have L7 : LoopAt (Γ.comp scope cl C) g s.heap (Dd :: wr) g6 σ6 h7 := L6.hid ap kk' fun b hb => by
          by_cases q : b = Dd
          · subst q; obtain ⟨n, e⟩ := pl7; exact live_of e
          · obtain ⟨o, e⟩ := Option.isSome_iff_exists.mp (L6.lw b hb)
            exact live_of ((hs7.2 b q).trans e)
        have nz6 : ∀ b, g6.z b → b ∉ [Dd] := fun b z q => (L6.off Dd List.mem_cons_self).1 (List.mem_singleton.mp q ▸ z)
        have st7 : Sx (i + 1) h7 := X.W.frame _ _ _ (fr (g6 := g6) k6 (fun b o z e => t6.kz b o z e)) fun b hb o e => by
          rcases X.foot b hb with m | m
          · exact kk b o (fun q => hDw (List.mem_singleton.mp q ▸ m)) e
          · exact kk b o (nz6 b (t6.z b (t5.z b (t4.z b (L3.t.z b m))))) e
        have aE : At (Γ.comp scope cl C) g6 ⟨cloc Γ scope σ, σ6.own⟩ h6 := aF.reloc ((t4.trans t5).trans t6) a6 hcl hmu
        have aE7 : At (Γ.comp scope cl C) g6 ⟨cloc Γ scope σ, σ6.own⟩ h7 := (LoopAt.hid ap ⟨L6.t, aE, L6.lw, L6.off⟩ kk' L7.lw).a
        refine ⟨rfl, n - (i + 1), by lia, i + 1, g6, ⟨cloc Γ scope σ, σ6.own⟩, ds ++ [d6], vs ++ [y], h7, tk6, rfl, hlt, rfl, ⟨L7.t, aE7, L7.lw, L7.off⟩, st7, q6.2, rfl, by simpa using pl7, ?_, by simp; lia⟩
        exact (Reps.mono (fun _ z => z) (fun b o z e => kk b o (nz6 b z) e) _ rs6).append (Reps.one (Rep.mono (fun _ z => z) (fun b o z e => kk b o (nz6 b z) e) _ r6'))
    · intro e h3 tk3 t3 a3 kept3
      have hDw : Dd ∉ wr := fun q => by
        have l := X.lv 0 _ X.st Dd q
        obtain ⟨o, eo⟩ := Option.isSome_iff_exists.mp l
        have := Heap.lt_size eo
        rw [hD] at this
        exact absurd this (Nat.lt_irrefl _)
      refine wpAny_pure (fin Dd C g' σ' ds vs h3 tk3 ⟨t3, a3, pl.at fun o e => kept3 _ _ hDw e, Reps.mono (fun _ z => z) (fun b o z e => kept3 b o (fun q => (L.off b (List.mem_cons_of_mem _ q)).1 z) e) _ rs, nD, nC, ne, L.off Dd List.mem_cons_self⟩ ?_)
      rw [← X.len, ← e]; exact j
  exact codeAny_compStart_list (loop _ rfl) (X.W.self 0 _ _ _ st1 (loop _ rfl))
end
end Mine

namespace Mine

structure ScOk (Γ : Cx) (scope : Scope) : Prop where
  noCell : ∀ y ∈ scope.names, y.2 ≠ .cell
  kind : scope.kind = .function
  free : ∀ y ∈ scope.names, y.2 = .free → Γ.env.kindOf y.1 = some .cell
  names : ∀ y ∈ scope.names, y.2 = .local → scope.names.lookup y.1 = some .local

section
variable {Γ : Cx} {E : ExPost} {σ : St} {g : Gh} {s : Shared}

theorem ScOk.closure {scope : Scope} {h : Heap} (K : ScOk Γ scope) (a : At Γ g σ h) : ∃ cl, closureFor scope Γ.env = pure cl ∧ ClOk Γ scope cl := by
  obtain ⟨cl, h1, h2, h3⟩ := closure_ex (scope := scope) (env := Γ.env) (fun y hy hf => a.ok.full _ (K.free y hy hf))
  exact ⟨cl, h1, h2, h3, K.noCell, K.kind⟩

theorem CompEnd.back {scope : Scope} {cl : List (Str × Addr)} {g' : Gh} {σc : St} {ds : List D} {vs : List Value} {h' h'' : Heap} {Dd C : Addr} (e : CompEnd Γ scope cl g s Dd C g' σc ds vs h') (a : At Γ g σ s.heap) (hs : Heap.SameBut C h' h'') :
    At Γ g' ⟨σ.loc, σc.own⟩ h'' ∧ Tr Γ g s.heap g' h'' ∧ h''.PlainList Dd vs.toArray ∧ Reps Γ.toWd h'' g'.z ds vs := by
  have ns : ∀ b o, b ∉ (Γ.comp scope cl C).mu → h'.get? b = some o → h''.get? b = some o := fun b o hb q => (hs.2 b (fun x => hb (by subst x; exact List.mem_singleton.mpr rfl))).trans q
  obtain ⟨a1, t1⟩ := At.leave (Γ := Γ) (Γ' := Γ.comp scope cl C) rfl rfl rfl a e.t e.a (fun b hb => by rw [List.mem_singleton.mp hb]; exact e.newC) ns
  refine ⟨a1, t1, e.lst.at fun o q => (hs.2 Dd e.ne).trans q, Reps.mono (fun _ z => z) (fun b o z q => ns b o (fun m => (e.a.mz b m).1 z) q) _ e.r⟩


/-- the list is frozen -/
theorem CompEnd.frozen {scope : Scope} {cl : List (Str × Addr)} {g' : Gh} {σc : St} {ds : List D} {vs : List Value} {h' h'' : Heap} {Dd C : Addr} (e : CompEnd Γ scope cl g s Dd C g' σc ds vs h') (a : At Γ g σ s.heap) (hs : Heap.SameBut C h' h'') :
    At Γ (g'.freeze Dd) ⟨σ.loc, σc.own⟩ h'' ∧ Tr Γ g s.heap (g'.freeze Dd) h'' ∧ Rep Γ.toWd h'' (g'.freeze Dd).z (.lst ds) (.ref Dd) := by
  obtain ⟨a1, t1, l1, r1⟩ := e.back a hs
  obtain ⟨n, q⟩ := id l1
  have ap := Apart.of (hd := [Dd]) a (fun b hb => by rw [List.mem_singleton.mp hb]; exact e.newD)
  have md : Dd ∈ [Dd] := List.mem_singleton.mpr rfl
  refine ⟨a1.addZ (live_of q) e.offD.2 (ap.mu Dd md) (ap.cell Dd md), t1.addZ e.newD, ⟨Dd, vs, rfl, .inr rfl, l1.isList, Reps.mono (fun _ z => .inl z) (fun _ _ _ x => x) _ r1⟩⟩
/-- the list is the frame's own -/
theorem CompEnd.owned {scope : Scope} {cl : List (Str × Addr)} {g' : Gh} {σc : St} {ds : List D} {vs : List Value} {h' h'' : Heap} {Dd C : Addr} (e : CompEnd Γ scope cl g s Dd C g' σc ds vs h') (a : At Γ g σ s.heap) (hs : Heap.SameBut C h' h'') :
    At Γ (g'.addOwn Dd) ⟨σ.loc, σc.own ++ [.lst ds]⟩ h'' ∧ Tr Γ g s.heap (g'.addOwn Dd) h'' ∧ RepV Γ.toWd (g'.addOwn Dd) h'' (.own σc.own.length) (.ref Dd) := by
  obtain ⟨a1, t1, l1, r1⟩ := e.back a hs
  obtain ⟨n, q⟩ := id l1
  have ap := Apart.of (hd := [Dd]) a (fun b hb => by rw [List.mem_singleton.mp hb]; exact e.newD)
  have md : Dd ∈ [Dd] := List.mem_singleton.mpr rfl
  refine ⟨a1.addOwn (o := .lst ds) (live_of q) e.offD.1 e.offD.2 (ap.mu Dd md) (ap.cell Dd md) (ap.base Dd md) ⟨vs, l1, r1⟩, t1.addOwn e.newD, ⟨Dd, ?_, rfl⟩⟩
  show (g'.al ++ [Dd])[σc.own.length]? = some Dd
  have : g'.al.length = σc.own.length := a1.len
  rw [← this]; simp

inductive CompAsk (Γ : Cx) (scope : Scope) (target elt : Expr) (ifs : List Expr) (Fin : St → List D → List OO → Prop) (d : D) (σ₁ : St) : Prop
  | mk (items : List D) (J : Nat → List D → List OO → Prop) (ok : ItOk Γ d items) (z : items.length ≤ sizeLine) (j0 : J 0 [] σ₁.own) (turn : CompTurn Γ scope target elt ifs σ₁ items J) (fin : ∀ ds ow, J items.length ds ow → Fin σ₁ ds ow)
abbrev QLC (Q : D → St → Prop) (σ₁ : St) (ds : List D) (ow : List OO) : Prop := Q (.lst ds) ⟨σ₁.loc, ow⟩
abbrev QLCO (Q : D → St → Prop) (σ₁ : St) (ds : List D) (ow : List OO) : Prop := Q (.own ow.length) ⟨σ₁.loc, ow ++ [.lst ds]⟩
abbrev QSC (y : Str) (Q : Out → St → Prop) (σ₁ : St) (ds : List D) (ow : List OO) : Prop := Q .next (St.set ⟨σ₁.loc, ow⟩ y (.lst ds))
abbrev QSCO (y : Str) (Q : Out → St → Prop) (σ₁ : St) (ds : List D) (ow : List OO) : Prop := Q .next (St.set ⟨σ₁.loc, ow ++ [.lst ds]⟩ y (.own ow.length))

def CompTurnK (Γ : Cx) (scope : Scope) (target elt : Expr) (ifs : List Expr) (σ : St) (items : List D) (J : Nat → List D → List OO → Prop) : Prop :=
  ∀ cl C (i : Nat) e ds ow, items[i]? = some e → J i ds ow → ∀ K : List D → List OO → Prop, (∀ ds ow, J (i + 1) ds ow → K ds ow) →
    WAsg (Γ.comp scope cl C) target e (QItem (Γ.comp scope cl C) ifs elt ds K) ⟨cloc Γ scope σ, ow⟩
inductive CompAskK (Γ : Cx) (scope : Scope) (target elt : Expr) (ifs : List Expr) (Fin : St → List D → List OO → Prop) (d : D) (σ₁ : St) : Prop
  | mk (items : List D) (J : Nat → List D → List OO → Prop) (ok : ItOk Γ d items) (z : items.length ≤ sizeLine) (j0 : J 0 [] σ₁.own) (turn : CompTurnK Γ scope target elt ifs σ₁ items J) (fin : ∀ F : List D → List OO → Prop, (∀ ds ow, Fin σ₁ ds ow → F ds ow) → ∀ ds ow, J items.length ds ow → F ds ow)
/-- the same, the turn's end hidden -/
theorem CompAsk.K {Γ : Cx} {scope : Scope} {target elt : Expr} {ifs : List Expr} {d : D} {σ₁ : St} {Fin : St → List D → List OO → Prop} (h : CompAskK Γ scope target elt ifs Fin d σ₁) : CompAsk Γ scope target elt ifs Fin d σ₁ :=
  let ⟨items, J, a, b, c, t, f⟩ := h
  ⟨items, J, a, b, c, fun cl C i e ds ow he hj => t cl C i e ds ow he hj _ (fun _ _ h => h), f _ fun _ _ h => h⟩

theorem comp_any {elt target iter : Expr} {ifs : List Expr} {scope : Scope} {pos p0 : Pos} {use : Option (Value → Sem Unit)} {P : Value → Shared → Prop} {Fin : St → List D → List OO → Prop} (K : ScOk Γ scope)
    (h : WE Γ iter (CompAsk Γ scope target elt ifs Fin) σ) (a : At Γ g σ s.heap)
    (fin : ∀ g₁ σ₁ h₁ tk₁ cl Dd C g' σc ds vs h' tk', Tr Γ g s.heap g₁ h₁ → At Γ g₁ σ₁ h₁ → CompEnd Γ scope cl g₁ { s with heap := h₁, toks := tk₁ } Dd C g' σc ds vs h' → Fin σ₁ ds σc.own → compPost (model Γ.prog Γ.w) Γ.A NoE use P (.ref Dd) C (.ok .next) { s with heap := h', toks := tk' })
    (hs : ∀ x, foldedSetIterable iter Γ.env x = pure x) :
    wpAny (model Γ.prog Γ.w) Γ.A (comprehension (.ListComp elt [⟨target, iter, ifs, 0⟩] scope pos) scope Γ.env p0 (newList []) false (eval iter Γ.env) use) P NoE s := by
  obtain ⟨cl, hcl, C0⟩ := K.closure a
  refine wpAny_comprehension_free (g := ⟨target, iter, ifs, 0⟩) (gs := []) rfl hs hcl K.kind K.names (WE.use h a fun v g₁ σ₁ d h₁ tk₁ t₁ a₁ r₁ q => ?_)
  obtain ⟨items, J, ok, hz, j0, turn, hf⟩ := q
  refine wpAny_mono (ok g₁ σ₁ _ v a₁ r₁) (fun it s' p => ?_) fun _ _ f => f.elim
  obtain ⟨I, fp, wr, n, P', Sx, h₂, tk₂, rfl, rfl, X⟩ := p
  have := comp_block (Γ := Γ) (iter := iter) (σ := σ₁) (g := g₁) (s := { s with heap := h₁, toks := tk₁ }) (pos := pos) (tk₂ := tk₂) (RR := fun acc C r s' => compPost (model Γ.prog Γ.w) Γ.A NoE use P acc C r s') (X' := NoE) C0 a₁ X hz j0 turn
    (fun Dd C g' σc ds vs h' tk' e j => fin g₁ σ₁ h₁ tk₁ cl Dd C g' σc ds vs h' tk' t₁ a₁ e (hf _ _ j))
  exact this

theorem WE.comp {elt target iter : Expr} {ifs : List Expr} {scope : Scope} {pos : Pos} {Q : D → St → Prop} (K : ScOk Γ scope)
    (h : WE Γ iter (CompAsk Γ scope target elt ifs (QLC Q)) σ)
    (hs : ∀ x, foldedSetIterable iter Γ.env x = pure x := by intro _; rfl) : WE Γ (.ListComp elt [⟨target, iter, ifs, 0⟩] scope pos) Q σ := fun g s a => by
  rw [eval_ListComp]
  refine comp_any (use := none) K h a (fun g₁ σ₁ h₁ tk₁ cl Dd C g' σc ds vs h' tk' t₁ a₁ e q => ?_) hs
  obtain ⟨m, hn, _⟩ := e.a.loc
  refine ⟨m, hn, fun h'' hs'' => ?_⟩
  obtain ⟨a2, t2, r2⟩ := e.frozen a₁ hs''
  exact ⟨_, _, .lst ds, h'', tk', rfl, t₁.trans t2, a2, r2, q⟩

theorem WE.compOwn {elt target iter : Expr} {ifs : List Expr} {scope : Scope} {pos : Pos} {Q : D → St → Prop} (K : ScOk Γ scope)
    (h : WE Γ iter (CompAsk Γ scope target elt ifs (QLCO Q)) σ)
    (hs : ∀ x, foldedSetIterable iter Γ.env x = pure x := by intro _; rfl) : WE Γ (.ListComp elt [⟨target, iter, ifs, 0⟩] scope pos) Q σ := fun g s a => by
  rw [eval_ListComp]
  refine comp_any (use := none) K h a (fun g₁ σ₁ h₁ tk₁ cl Dd C g' σc ds vs h' tk' t₁ a₁ e q => ?_) hs
  obtain ⟨m, hn, _⟩ := e.a.loc
  refine ⟨m, hn, fun h'' hs'' => ?_⟩
  obtain ⟨a2, t2, r2⟩ := e.owned a₁ hs''
  exact ⟨_, _, .own σc.own.length, h'', tk', rfl, t₁.trans t2, a2, r2, q⟩

theorem assign_use {y : Str} {py : Pos} {d : D} {Dd C : Addr} {g₀ g' : Gh} {σ' : St} {h₀ h' : Heap} {tk' : Nat} {m : Str → Option Value} {P : Value → Shared → Prop} (hy : Stor Γ y) (t : Tr Γ g₀ h₀ g' h') (hC : h₀.get? C = none) (a : At Γ g' σ' h') (r : RepV Γ.toWd g' h' d (.ref Dd)) (hn : h'.Ns C m)
    (offC : C ∉ Γ.mu ∧ ¬ g'.z C ∧ C ∉ g'.al ∧ Γ.base.get? C = none ∧ ∀ x c, Γ.env.cells.lookup x = some c → c ≠ C)
    (k : ∀ h3 tk3, Tr Γ g₀ h₀ g' h3 → At Γ g' (σ'.set y d) h3 → P .none { s with heap := h3, toks := tk3 }) :
    compPost (model Γ.prog Γ.w) Γ.A NoE (some (assign (.Name y py) Γ.env)) P (.ref Dd) C (.ok .next) { s with heap := h', toks := tk' } := by
  show wpAny _ _ (assign (.Name y py) Γ.env (.ref Dd)) _ _ _
  refine wpAny_assign_Name (store_at a hy r fun h2 tk2 t2 a2 => ?_)
  have kC : ∀ o, h'.get? C = some o → h2.get? C = some o := fun o e => t2.kp C o offC.1 offC.2.2.1 e
  refine ⟨m, hn.at' kC, fun h3 hs3 => ?_⟩
  have kk : ∀ b o, b ∉ [C] → h2.get? b = some o → h3.get? b = some o := fun b o hb e => (hs3.2 b (fun q => hb (List.mem_singleton.mpr q))).trans e
  refine k h3 tk2 ((t.trans t2).off (wr := [C]) (fun b hb => by rw [List.mem_singleton.mp hb]; exact hC) kk) ?_
  exact a2.off (wr := [C]) (fun b hb => by rw [List.mem_singleton.mp hb]; exact ⟨offC.2.1, offC.2.2.1, offC.1, offC.2.2.2.1, offC.2.2.2.2⟩) kk

theorem exec_comp_used {y : Str} {py pos spos : Pos} {elt target iter : Expr} {ifs : List Expr} {scope : Scope} {P : Flow → Shared → Prop} {X : Value → Shared → Prop}
    (hsw : swapsWith (.ListComp elt [⟨target, iter, ifs, 0⟩] scope pos) (some (.Name y py)) spos.line Γ.env = pure true)
    (h : wpAny (model Γ.prog Γ.w) Γ.A (comprehension (.ListComp elt [⟨target, iter, ifs, 0⟩] scope pos) scope Γ.env (firstIterPos [⟨target, iter, ifs, 0⟩] pos) (newList []) false (eval iter Γ.env) (some (assign (.Name y py) Γ.env))) (fun _ s' => P .next s') X s) :
    wpAny (model Γ.prog Γ.w) Γ.A (exec (.Assign [.Name y py] (.ListComp elt [⟨target, iter, ifs, 0⟩] scope pos) spos) Γ.env) P X s := by
  rw [exec_Assign_Name_used _ _ _ _ hsw]
  refine wpAny_bind (wpAny_standAt (wpAny_bind ?_))
  show wpAny _ _ (do let _ ← comprehension (.ListComp elt [⟨target, iter, ifs, 0⟩] scope pos) scope Γ.env _ (newList []) false (eval iter Γ.env) (some (assign (.Name y py) Γ.env))) _ _ s
  exact wpAny_bind (wpAny_mono h (fun _ s' q => wpAny_pure (wpAny_pure q)) fun _ _ e => e)

theorem WS.assignComp {y : Str} {py pos spos : Pos} {elt target iter : Expr} {ifs : List Expr} {scope : Scope} {Q : Out → St → Prop} (K : ScOk Γ scope) (hy : Stor Γ y)
    (h : WE Γ iter (CompAsk Γ scope target elt ifs (QSC y Q)) σ)
    (hsw : swapsWith (.ListComp elt [⟨target, iter, ifs, 0⟩] scope pos) (some (.Name y py)) spos.line Γ.env = pure true := by rfl) (hs : ∀ x, foldedSetIterable iter Γ.env x = pure x := by intro _; rfl) :
    WS Γ E (.Assign [.Name y py] (.ListComp elt [⟨target, iter, ifs, 0⟩] scope pos) spos) Q σ := fun g s a => by
  refine exec_comp_used hsw (wpAny_neverE (comp_any (Fin := QSC y Q) K h a (fun g₁ σ₁ h₁ tk₁ cl Dd C g' σc ds vs h' tk' t₁ a₁ e q => ?_) hs))
  obtain ⟨m, hn, _⟩ := e.a.loc
  obtain ⟨a2, t2, r2⟩ := e.frozen a₁ (Heap.SameBut.refl C h')
  have ap := Apart.of (hd := [C]) a₁ (fun b hb => by rw [List.mem_singleton.mp hb]; exact e.newC)
  have mc : C ∈ [C] := List.mem_singleton.mpr rfl
  refine assign_use hy t2 e.newC a2 (RepV.of r2) hn ⟨ap.mu C mc, fun z => ?_, (e.a.mz C mc).2, ap.base C mc, ap.cell C mc⟩ fun h3 tk3 t3 a3 => ?_
  · rcases z with z | z
    · exact (e.a.mz C mc).1 z
    · exact e.ne z.symm
  · exact ⟨_, _, .next, h3, tk3, rfl, t₁.trans t3, a3, rfl, q⟩
theorem WS.assignCompOwn {y : Str} {py pos spos : Pos} {elt target iter : Expr} {ifs : List Expr} {scope : Scope} {Q : Out → St → Prop} (K : ScOk Γ scope) (hy : Stor Γ y)
    (h : WE Γ iter (CompAsk Γ scope target elt ifs (QSCO y Q)) σ)
    (hsw : swapsWith (.ListComp elt [⟨target, iter, ifs, 0⟩] scope pos) (some (.Name y py)) spos.line Γ.env = pure true := by rfl) (hs : ∀ x, foldedSetIterable iter Γ.env x = pure x := by intro _; rfl) :
    WS Γ E (.Assign [.Name y py] (.ListComp elt [⟨target, iter, ifs, 0⟩] scope pos) spos) Q σ := fun g s a => by
  refine exec_comp_used hsw (wpAny_neverE (comp_any (Fin := QSCO y Q) K h a (fun g₁ σ₁ h₁ tk₁ cl Dd C g' σc ds vs h' tk' t₁ a₁ e q => ?_) hs))
  obtain ⟨m, hn, _⟩ := e.a.loc
  obtain ⟨a2, t2, r2⟩ := e.owned a₁ (Heap.SameBut.refl C h')
  have ap := Apart.of (hd := [C]) a₁ (fun b hb => by rw [List.mem_singleton.mp hb]; exact e.newC)
  have mc : C ∈ [C] := List.mem_singleton.mpr rfl
  refine assign_use hy t2 e.newC a2 r2 hn ⟨ap.mu C mc, (e.a.mz C mc).1, fun z => ?_, ap.base C mc, ap.cell C mc⟩ fun h3 tk3 t3 a3 => ?_
  · rcases List.mem_append.mp z with z | z
    · exact (e.a.mz C mc).2 z
    · exact e.ne (List.mem_singleton.mp z).symm
  · exact ⟨_, _, .next, h3, tk3, rfl, t₁.trans t3, a3, rfl, q⟩
end
end Mine

namespace Mine

def Cx.callee (Γ : Cx) (d : DefRec) (L f : Addr) (cd : Value) (k : Nat) : Cx :=
  { Γ with A := Γ.A.deeper (envOfC d.name d.scope L f cd), env := envOfC d.name d.scope L f cd, mu := L :: (cellsFrom (L + 1) d.scope.names []).map (·.2), k := k, lv := Γ.lv - 1 }

theorem bindL_none {kindOf : Str → Option NameKind} : ∀ {binds : List (Str × Value)} {m : Str → Option Value} {x : Str}, x ∉ binds.map (·.1) → bindL kindOf binds m x = m x
  | [], _, _, _ => rfl
  | (n, v) :: r, m, x, h => by
    simp only [List.map_cons, List.mem_cons, not_or] at h
    unfold bindL
    rw [bindL_none h.2]
    split
    · simp [h.1]
    · rfl
theorem bindC_none {kindOf : Str → Option NameKind} : ∀ {binds : List (Str × Value)} {m : Str → Option Value} {x : Str}, x ∉ binds.map (·.1) → bindC kindOf binds m x = m x
  | [], _, _, _ => rfl
  | (n, v) :: r, m, x, h => by
    simp only [List.map_cons, List.mem_cons, not_or] at h
    unfold bindC
    rw [bindC_none h.2]
    split
    · rfl
    · simp [h.1]
theorem bindL_get {kindOf : Str → Option NameKind} {x : Str} {v : Value} (hk : kindOf x = some .local) : ∀ {binds : List (Str × Value)} {m : Str → Option Value}, (binds.map (·.1)).Nodup → (x, v) ∈ binds → bindL kindOf binds m x = some v
  | [], _, _, h => nomatch h
  | (n, u) :: r, m, hn, h => by
    rw [List.map_cons, List.nodup_cons] at hn
    unfold bindL
    rcases List.mem_cons.mp h with q | q
    · cases q
      rw [bindL_none hn.1, if_pos hk]; simp
    · exact bindL_get hk hn.2 q
theorem bindC_get {kindOf : Str → Option NameKind} {x : Str} {v : Value} (hk : kindOf x ≠ some .local) : ∀ {binds : List (Str × Value)} {m : Str → Option Value}, (binds.map (·.1)).Nodup → (x, v) ∈ binds → bindC kindOf binds m x = some v
  | [], _, _, h => nomatch h
  | (n, u) :: r, m, hn, h => by
    rw [List.map_cons, List.nodup_cons] at hn
    unfold bindC
    rcases List.mem_cons.mp h with q | q
    · cases q
      rw [bindC_none hn.1, if_neg hk]; simp
    · exact bindC_get hk hn.2 q

theorem zip_lookup {Γ : Wd} {g : Gh} {h : Heap} : ∀ {ps : List Str} {ds : List D} {vs : List Value} {x : Str} {d : D}, RepVs Γ g h ds vs → (ps.zip ds).lookup x = some d → ∃ v, (x, v) ∈ ps.zip vs ∧ RepV Γ g h d v
  | [], _, _, _, _, _, e => by simp at e
  | p :: ps, [], _, _, _, _, e => by simp at e
  | p :: ps, d' :: ds, _, x, d, ⟨v, ws, hv, r, rs⟩, e => by
    subst hv
    rw [List.zip_cons_cons, List.lookup_cons] at e
    cases q : x == p with
    | true =>
      rw [q] at e; cases e
      rw [beq_iff_eq.mp q]
      exact ⟨v, by rw [List.zip_cons_cons]; exact List.mem_cons_self, r⟩
    | false =>
      rw [q] at e
      obtain ⟨u, hu, ru⟩ := zip_lookup rs e
      exact ⟨u, by rw [List.zip_cons_cons]; exact List.mem_cons_of_mem _ hu, ru⟩

theorem zip_keys {α : Type} : ∀ (ps : List Str) (vs : List α), ((ps.zip vs).map (·.1)) = ps.take vs.length
  | [], _ => by simp
  | p :: ps, [] => by simp
  | p :: ps, v :: vs => by simp [zip_keys ps vs]

structure DefOk (d : DefRec) (ps : List Str) : Prop where
  co : d.scope.isCoroutine = false
  gen : d.scope.isGenerator = false
  kind : d.scope.kind = .function
  bind : ∀ vs : List Value, vs.length = ps.length → ∀ pm cd doc, bindArgs (Calls.docDef d.name d.params d.body d.scope pm cd doc) ⟨vs, []⟩ = pure (ps.zip vs)
  nodup : ps.Nodup
  kinds : ∀ p ∈ ps, d.scope.names.lookup p = some .local ∨ d.scope.names.lookup p = some .cell

def ploc (ps : List Str) (ds : List D) : Str → Option D := fun x => (ps.zip ds).lookup x

section
variable {Γ : Cx} {E : ExPost} {σ : St} {g : Gh} {s : Shared}

/-- what a call of a value does to the state -/
def WCall (Γ : Cx) (fv : Value) (ds : List D) (Q : D → St → Prop) (σ : St) : Prop :=
  ∀ g (s : Shared) vs, At Γ g σ s.heap → RepVs Γ.toWd g s.heap ds vs → wpAny (model Γ.prog Γ.w) Γ.A (call fv vs) (PostE Γ g s Q) NoE s

theorem cells_above {L : Addr} {h : Heap} {cm : Str → Option Value} {cs : List (Str × Addr)} (X : Cl L cs h cm) {c : Addr} (hc : c ∈ cs.map (·.2)) : L < c := by
  obtain ⟨⟨n, c'⟩, hm, rfl⟩ := List.mem_map.mp hc
  exact X.above n c' hm
theorem lookup_mem {cs : List (Str × Addr)} {x : Str} {c : Addr} (h : cs.lookup x = some c) : c ∈ cs.map (·.2) := List.mem_map.mpr ⟨(x, c), mem_of_lookup h, rfl⟩
theorem cell_of_mem {L : Addr} {h : Heap} {cm : Str → Option Value} {cs : List (Str × Addr)} (X : Cl L cs h cm) (hn : (cs.map (·.1)).Nodup) {c : Addr} (hc : c ∈ cs.map (·.2)) : (h.get? c).isSome = true := by
  obtain ⟨⟨n, c'⟩, hm, rfl⟩ := List.mem_map.mp hc
  have : cs.lookup n = some c' := by
    clear X
    induction cs with
    | nil => exact nomatch hm
    | cons y r ih =>
      rw [List.map_cons, List.nodup_cons] at hn
      rw [List.lookup_cons]
      rcases List.mem_cons.mp hm with q | q
      · subst q; simp
      · have : n ≠ y.1 := fun e => hn.1 (e ▸ List.mem_map.mpr ⟨_, q, rfl⟩)
        rw [beq_eq_false_iff_ne.mpr this]
        exact ih hn.2 q (List.mem_map.mpr ⟨_, q, rfl⟩)
  obtain ⟨o, e, _⟩ := X.cell n c' this
  exact live_of e

/-- into a callee's frame; pls are the places of the caller's own that are handed on -/
theorem At.enterCall {h h₁ : Heap} {d : DefRec} {ps : List Str} {f : Addr} {cd : Value} {vs : List Value} {ds : List D} {pls : List Addr} {owns : List OO} (a : At Γ g σ h) (K : DefOk d ps) (hlv : 1 ≤ Γ.lv) (hlen : vs.length = ps.length)
    (hnc : ((cellsFrom (h.objs.size + 1) d.scope.names []).map (·.1)).Nodup)
    (F : Fr h h.objs.size h₁ (bindL (envOfC d.name d.scope h.objs.size f cd).kindOf (ps.zip vs) fun _ => none)) (X : Cl h.objs.size (cellsFrom (h.objs.size + 1) d.scope.names []) h₁ (bindC (envOfC d.name d.scope h.objs.size f cd).kindOf (ps.zip vs) fun _ => none))
    (r : RepVs Γ.toWd ⟨g.z, pls⟩ h ds vs) (hl : pls.length = owns.length) (hsub : ∀ a ∈ pls, a ∈ g.al) (hnd : pls.Nodup) (ho : ∀ (i : Nat) o, owns[i]? = some o → ∃ a : Addr, pls[i]? = some a ∧ OwnRep Γ.toWd h g.z a o ∧ (o ≠ .dead → ¬ g.z a)) :
    At (Γ.callee d h.objs.size f cd pls.length) ⟨g.z, pls⟩ ⟨ploc ps ds, owns⟩ h₁ := by
  have hk : Kept h h₁ := F.keep
  have hfresh : h.get? h.objs.size = none := fresh_size h
  have cfresh : ∀ c ∈ (cellsFrom (h.objs.size + 1) d.scope.names []).map (·.2), h.get? c = none := fun c hc => Heap.get?_none_of_le (Nat.le_of_lt (cells_above X hc))
  have mufresh : ∀ b ∈ (Γ.callee d h.objs.size f cd pls.length).mu, h.get? b = none := fun b hb => by
    rcases List.mem_cons.mp hb with q | q
    · subst q; exact hfresh
    · exact cfresh b q
  have keys : ((ps.zip vs).map (·.1)).Nodup := by rw [zip_keys, hlen, List.take_length]; exact K.nodup
  refine ⟨⟨K.kind, rfl, rfl, List.mem_cons_self, fun x c hc => Nat.ne_of_gt (X.above x c (mem_of_lookup hc)), fun x y c h1 h2 => name_of_addr X.apart (mem_of_lookup h1) (mem_of_lookup h2), fun x e => ?_, a.ok.hd, ?_, ?_, a.ok.g, a.ok.b, a.ok.lim, a.ok.fn, a.ok.kin⟩,
    fun b o e => hk b o (a.keep b o e), ?_, fun x c hc => ⟨_, X.cell x c hc⟩, hl, ?_, hnd, ?_, ?_, ?_, ?_⟩
  · have e' : d.scope.names.lookup x = some .cell := e
    exact Option.isSome_iff_exists.mp (cellsFrom_some d.scope.names (h.objs.size + 1) [] (.inl e'))
  · have := a.ok.un
    show Γ.A.units + 3 + 200 + 10 * (Γ.lv - 1) ≤ cLine
    lia
  · have := a.ok.dp
    show Γ.A.depth + 1 + (Γ.lv - 1) < recursionLimit
    lia
  · refine ⟨_, F.ns, fun x e hx => ?_⟩
    obtain ⟨v, hm, rv⟩ := zip_lookup r hx
    have hp : x ∈ ps := (List.of_mem_zip hm).1
    refine ⟨v, ?_, rv.mono (fun _ z => z) (fun b o _ q => hk b o q) (fun _ _ e => e)⟩
    rcases K.kinds x hp with q | q
    · exact .inl ⟨q, bindL_get (show (envOfC d.name d.scope h.objs.size f cd).kindOf x = some .local from q) keys hm⟩
    · refine .inr ⟨q, ?_⟩
      obtain ⟨c, hc⟩ := Option.isSome_iff_exists.mp (cellsFrom_some d.scope.names (h.objs.size + 1) [] (.inl q))
      have := X.cell x c hc
      rw [bindC_get (show (envOfC d.name d.scope h.objs.size f cd).kindOf x ≠ some .local from by rw [show (envOfC d.name d.scope h.objs.size f cd).kindOf x = some .cell from q]; simp) keys hm] at this
      exact ⟨c, hc, this⟩
  · intro i o hi
    obtain ⟨x, hx, rx, zx⟩ := ho i o hi
    exact ⟨x, hx, rx.mono (fun _ z => z) (fun b o _ e => hk b o e) (fun o e => hk _ _ e), zx⟩
  · intro b hb
    exact ⟨fun z => not_live (mufresh b hb) (a.up b (.inl z)), fun z => not_live (mufresh b hb) (a.up b (.inr (.inl (hsub b z))))⟩
  · rintro b (q | q)
    · exact a.lo b (.inl (hsub b q))
    · show Γ.base.get? b = none
      cases e : Γ.base.get? b with
      | none => rfl
      | some o => have := mufresh b q; rw [a.keep b o e] at this; cases this
  · have lv : ∀ b, (h.get? b).isSome = true → (h₁.get? b).isSome = true := fun b l => by obtain ⟨o, e⟩ := Option.isSome_iff_exists.mp l; exact live_of (hk b o e)
    rintro b (q | q | q)
    · exact lv b (a.up b (.inl q))
    · exact lv b (a.up b (.inr (.inl (hsub b q))))
    · rcases List.mem_cons.mp q with q | q
      · subst q; exact ns_live F.ns
      · exact cell_of_mem X hnc q
  · intro x c hc
    have := cfresh c (lookup_mem hc)
    exact ⟨fun z => not_live this (a.up c (.inl z)), fun z => not_live this (a.up c (.inr (.inl (hsub c z))))⟩

/-- back from a callee's frame -/
theorem At.leaveCall {Γ' : Cx} {g' : Gh} {σ' : St} {h₀ h' : Heap} {pls : List Addr} {own' : List OO} (hw : Γ'.toWd = Γ.toWd) (a : At Γ g σ h₀) (t : Tr Γ' ⟨g.z, pls⟩ h₀ g' h') (hk : Γ'.k = pls.length) (a' : At Γ' g' σ' h')
    (hmu : ∀ b ∈ Γ'.mu, h₀.get? b = none) (hsub : ∀ b ∈ pls, b ∈ g.al) (hl : own'.length = σ.own.length)
    (ho : ∀ (i : Nat) o, own'[i]? = some o → ∃ b : Addr, g.al[i]? = some b ∧ ((b ∉ pls ∧ σ.own[i]? = some o) ∨ (OwnRep Γ.toWd h' g'.z b o ∧ (o ≠ .dead → ¬ g'.z b)))) :
    At Γ ⟨g'.z, g.al⟩ ⟨σ.loc, own'⟩ h' ∧ Tr Γ g h₀ ⟨g'.z, g.al⟩ h' := by
  have live : ∀ b, (h₀.get? b).isSome = true → b ∉ Γ'.mu := fun b l q => not_live (hmu b q) l
  have fz : ∀ b, g'.z b → g.z b ∨ h₀.get? b = none := fun b z => by
    rcases t.fz b z with q | q | ⟨i, hi, q⟩
    · exact .inl q
    · exact .inr q
    · have hi : Γ'.k ≤ i := hi
      have hlt : i < pls.length := (List.getElem?_eq_some_iff.mp q).1
      lia
  have kp : ∀ b o, b ∉ pls → h₀.get? b = some o → h'.get? b = some o := fun b o q e => t.kp b o (live b (live_of e)) q e
  have kz : ∀ b o, g.z b → h₀.get? b = some o → h'.get? b = some o := fun b o z e => t.kz b o z e
  have nmu : ∀ b ∈ Γ.mu, b ∉ pls := fun b hb q => (a.mz b hb).2 (hsub b q)
  have ncz : ∀ x c, Γ.env.cells.lookup x = some c → c ∉ pls := fun x c hc q => (a.cz x c hc).2 (hsub c q)
  refine ⟨⟨a.ok, fun b o e => ?_, ?_, ?_, ?_, ?_, a.nd, ?_, a.lo, ?_, ?_⟩, ⟨t.z, ⟨[], by simp, by simp⟩, fun b z => (fz b z).imp id .inl, kz, fun b o _ q e => kp b o (fun m => q (hsub b m)) e, t.lv⟩⟩
  · refine kp b o (fun q => ?_) (a.keep b o e)
    rw [a.lo b (.inl (hsub b q))] at e; cases e
  · obtain ⟨m, hn, hl⟩ := a.loc
    refine ⟨m, hn.at' fun o e => kp _ o (nmu _ a.ok.locMu) e, fun x d hx => ?_⟩
    obtain ⟨v, hv, r⟩ := hl x d hx
    exact ⟨v, hv.imp id (fun ⟨k, c, hc, o, e, dd⟩ => ⟨k, c, hc, o, kp c o (ncz x c hc) e, dd⟩), RepV.mono (g := g) (g' := ⟨g'.z, g.al⟩) t.z kz (fun _ _ e => e) r⟩
  · intro x c hc
    obtain ⟨ov, o, e, dd⟩ := a.cel x c hc
    exact ⟨ov, o, kp c o (ncz x c hc) e, dd⟩
  · show g.al.length = own'.length
    rw [hl]; exact a.len
  · intro i o hi
    obtain ⟨b, hb, q⟩ := ho i o hi
    refine ⟨b, hb, ?_⟩
    rcases q with ⟨q1, q2⟩ | q
    · obtain ⟨b', hb', r, z⟩ := a.own i o q2
      rw [hb] at hb'; cases hb'
      have lb := a.up b (.inr (.inl (List.mem_of_getElem? hb)))
      refine ⟨r.mono t.z kz (fun o e => kp b o q1 e), fun hd zb => ?_⟩
      rcases fz b zb with x | x
      · exact z hd x
      · exact not_live x lb
    · exact q
  · intro b hb
    refine ⟨fun z => ?_, (a.mz b hb).2⟩
    rcases fz b z with q | q
    · exact (a.mz b hb).1 q
    · exact not_live q (a.up b (.inr (.inr hb)))
  · rintro b (q | q)
    · exact a'.up b (.inl q)
    · exact t.lv b (a.up b (.inr q))
  · intro x c hc
    refine ⟨fun z => ?_, (a.cz x c hc).2⟩
    rcases fz c z with q | q
    · exact (a.cz x c hc).1 q
    · exact not_live q (a.cellLive hc)

def Body (Γ : Cx) (d : DefRec) (ps : List Str) (ds : List D) (owns : List OO) (R : D → List OO → Prop) : Prop :=
  ∀ L f cd, WX (Γ.callee d L f cd owns.length) NoX d.body (RetQ R) ⟨ploc ps ds, owns⟩

theorem call_enter {d : DefRec} {ps : List Str} {f : Addr} {ds : List D} {vs : List Value} {pls : List Addr} {owns : List OO} {R : D → List OO → Prop} {Q : D → St → Prop} (K : DefOk d ps) (hd : d ∈ Γ.recs) (hf : Γ.mg d.name = some (.ref f)) (hlv : 1 ≤ Γ.lv) (hlen : ds.length = ps.length)
    (hnc : ∀ n, ((cellsFrom n d.scope.names []).map (·.1)).Nodup) (a : At Γ g σ s.heap) (r : RepVs Γ.toWd ⟨g.z, pls⟩ s.heap ds vs) (hl : pls.length = owns.length) (hsub : ∀ a ∈ pls, a ∈ g.al) (hnd : pls.Nodup) (ho : ∀ (i : Nat) o, owns[i]? = some o → ∃ a : Addr, pls[i]? = some a ∧ OwnRep Γ.toWd s.heap g.z a o ∧ (o ≠ .dead → ¬ g.z a))
    (hb : Body Γ d ps ds owns R)
    (hback : ∀ g' σ' h' tk' rd v L f cd, Tr (Γ.callee d L f cd owns.length) ⟨g.z, pls⟩ s.heap g' h' → At (Γ.callee d L f cd owns.length) g' σ' h' → (∀ b ∈ (Γ.callee d L f cd owns.length).mu, s.heap.get? b = none) → Rep Γ.toWd h' g'.z rd v → (∀ i, rd ≠ .own i) → R rd σ'.own → PostE Γ g s Q v { s with heap := h', toks := tk' }) :
    wpAny (model Γ.prog Γ.w) Γ.A (call (.ref f) vs) (PostE Γ g s Q) NoE s := by
  obtain ⟨f', o, pm, cd, doc, e1, e2, e3, e4⟩ := a.ok.fn d hd
  rw [hf] at e1; cases e1
  have hvl : vs.length = ps.length := by rw [r.length, hlen]
  have hroom : Γ.A.depth < recursionLimit := by have := a.ok.dp; lia
  refine wpAny_call (call_cells hroom (a.keep _ _ e2) e3 (a.ok.lim.keeps a.keep) (e4.keeps a.keep) (K.bind vs hvl pm cd doc) ?_ (fun h₁ tk F X => ?_) K.co K.gen K.kind)
  · rintro ⟨x, v⟩ hx
    have hp : x ∈ ps := (List.of_mem_zip hx).1
    rcases K.kinds x hp with q | q
    · exact .inl q
    · exact .inr ⟨q, cellsFrom_some d.scope.names _ [] (.inl q)⟩
  · have a1 := a.enterCall (cd := cd) (f := f) K hlv hvl (hnc _) F X r hl hsub hnd ho
    rw [hl] at a1
    have mufresh : ∀ b ∈ (Γ.callee d s.heap.objs.size f cd owns.length).mu, s.heap.get? b = none := fun b hb => by
      rcases List.mem_cons.mp hb with q | q
      · subst q; exact fresh_size _
      · exact Heap.get?_none_of_le (Nat.le_of_lt (cells_above X q))
    refine wpAny_mono (hb s.heap.objs.size f cd ⟨g.z, pls⟩ { s with heap := h₁, toks := tk } a1) (fun fl s' p => ?_) fun _ _ x => x.elim
    obtain ⟨g', σ', o, h', tk', rfl, t', a', fo, rd, rfl, hown, hR⟩ := p
    obtain ⟨v, rfl, rv⟩ := fo
    exact hback g' σ' h' tk' rd v _ f cd ((Tr.kept F.keep).trans t') a' mufresh (rv.rep hown) hown hR

/-- a call that is handed nothing of the caller's own -/
theorem WCall.intro {d : DefRec} {ps : List Str} {f : Addr} {ds : List D} {R : D → List OO → Prop} {Q : D → St → Prop} (K : DefOk d ps) (hd : d ∈ Γ.recs) (hf : Γ.mg d.name = some (.ref f)) (hlv : 1 ≤ Γ.lv) (hlen : ds.length = ps.length)
    (hnc : ∀ n, ((cellsFrom n d.scope.names []).map (·.1)).Nodup) (hds : ∀ d ∈ ds, ∀ i, d ≠ .own i) (hb : Body Γ d ps ds [] R) (hQ : ∀ r ow, R r ow → Q r σ) : WCall Γ (.ref f) ds Q σ := fun g s vs a r => by
  have r' : RepVs Γ.toWd ⟨g.z, []⟩ s.heap ds vs := by
    have := r.reps hds
    clear r hlen hb
    induction ds generalizing vs with
    | nil => exact this
    | cons d ds ih =>
      unfold Reps at this; obtain ⟨v, ws, rfl, r1, r2⟩ := this
      exact ⟨v, ws, rfl, RepV.of r1, ih (fun d m => hds d (List.mem_cons_of_mem _ m)) ws r2⟩
  refine call_enter K hd hf hlv hlen hnc a r' rfl (by simp) (by simp) (by simp) hb fun g' σ' h' tk' rd v L f' cd t' a' mf rv hown hR => ?_
  obtain ⟨a2, t2⟩ := At.leaveCall (Γ := Γ) (Γ' := Γ.callee d L f' cd 0) (own' := σ.own) rfl a t' rfl a' mf (by simp) rfl (fun i o hi => let ⟨b, hb, _⟩ := a.own i o hi; ⟨b, hb, .inl ⟨by simp, hi⟩⟩)
  exact ⟨_, σ, rd, h', tk', rfl, t2, a2, RepV.of rv, hQ rd _ hR⟩

/-- a call that is handed one of the caller's own as its first argument -/
theorem WCall.intro1 {d : DefRec} {ps : List Str} {f : Addr} {i : Nat} {o : OO} {ds : List D} {R : D → List OO → Prop} {Q : D → St → Prop} (K : DefOk d ps) (hd : d ∈ Γ.recs) (hf : Γ.mg d.name = some (.ref f)) (hlv : 1 ≤ Γ.lv) (hlen : ds.length + 1 = ps.length)
    (hnc : ∀ n, ((cellsFrom n d.scope.names []).map (·.1)).Nodup) (hds : ∀ d ∈ ds, ∀ i, d ≠ .own i) (hi : σ.own[i]? = some o) (hb : Body Γ d ps (.own 0 :: ds) [o] R) (hQ : ∀ r ow o', R r ow → ow[0]? = some o' → Q r { σ with own := σ.own.set i o' }) : WCall Γ (.ref f) (.own i :: ds) Q σ := fun g s vs a r => by
  obtain ⟨v0, ws, rfl, r0, r⟩ := r
  obtain ⟨p, hp, rfl⟩ := r0
  have r' : RepVs Γ.toWd ⟨g.z, [p]⟩ s.heap (.own 0 :: ds) (.ref p :: ws) := by
    refine ⟨.ref p, ws, rfl, ⟨p, rfl, rfl⟩, ?_⟩
    have := r.reps hds
    clear r hlen hb
    induction ds generalizing ws with
    | nil => exact this
    | cons d ds ih =>
      unfold Reps at this; obtain ⟨v, ws, rfl, r1, r2⟩ := this
      exact ⟨v, ws, rfl, RepV.of r1, ih (fun d m => hds d (List.mem_cons_of_mem _ m)) ws r2⟩
  have hpm : p ∈ g.al := List.mem_of_getElem? hp
  refine call_enter (pls := [p]) K hd hf hlv (by simpa using hlen) hnc a r' rfl (by simpa using hpm) (by simp) (fun j oj hj => ?_) hb fun g' σ' h' tk' rd v L f' cd t' a' mf rv hown hR => ?_
  · cases j with
    | zero =>
      simp at hj; subst hj
      obtain ⟨b, hb, r, z⟩ := a.own i o hi
      rw [hp] at hb; cases hb
      exact ⟨p, rfl, r, z⟩
    | succ j => simp at hj
  · have hal : g'.al[0]? = some p := by
      obtain ⟨new, e, _⟩ := t'.al
      rw [e]; rfl
    have hlt : 0 < σ'.own.length := by
      rw [← a'.len]
      exact (List.getElem?_eq_some_iff.mp hal).1
    obtain ⟨o', ho'⟩ : ∃ o', σ'.own[0]? = some o' := ⟨σ'.own[0], List.getElem?_eq_getElem hlt⟩
    obtain ⟨p', hp', rp, zp⟩ := a'.own 0 o' ho'
    rw [hal] at hp'; cases hp'
    have hown' : ∀ (j : Nat) (oj : OO), (σ.own.set i o')[j]? = some oj → ∃ b : Addr, g.al[j]? = some b ∧ ((b ∉ [p] ∧ σ.own[j]? = some oj) ∨ (OwnRep Γ.toWd h' g'.z b oj ∧ (oj ≠ .dead → ¬ g'.z b))) := fun j oj hj => by
      by_cases q : i = j
      · subst q
        have hil : i < σ.own.length := (List.getElem?_eq_some_iff.mp hi).1
        rw [List.getElem?_set_self hil] at hj
        cases hj
        exact ⟨p, hp, .inr ⟨rp, zp⟩⟩
      · rw [List.getElem?_set_ne q] at hj
        obtain ⟨b, hb, _⟩ := a.own j oj hj
        refine ⟨b, hb, .inl ⟨fun m => ?_, hj⟩⟩
        have e : b = p := by simpa using m
        subst e
        have hlt : i < g.al.length := (List.getElem?_eq_some_iff.mp hp).1
        exact q ((List.getElem?_inj hlt a.nd).mp (hp.trans hb.symm))
    obtain ⟨a2, t2⟩ := At.leaveCall (Γ := Γ) (Γ' := Γ.callee d L f' cd 1) (own' := σ.own.set i o') rfl a t' rfl a' mf (by simpa using hpm) (by simp) hown'
    exact ⟨_, _, rd, h', tk', rfl, t2, a2, RepV.of rv, hQ rd _ o' hR ho'⟩

theorem evalArgs_of {fv : Value} {args : List Expr} {pos : Pos} {Q : List D → St → Prop} {P : Args → Shared → Prop} {X : Value → Shared → Prop} (hs : args.all notStar = true) (h : WEs Γ args Q σ) (a : At Γ g σ s.heap)
    (k : ∀ g' σ' ds vs h' tk, Tr Γ g s.heap g' h' → At Γ g' σ' h' → RepVs Γ.toWd g' h' ds vs → Q ds σ' → P ⟨vs, []⟩ { s with heap := h', toks := tk }) :
    wpAny (model Γ.prog Γ.w) Γ.A (evalArgs fv true (backTo pos (starEach args Γ.env)) []) P X s := by
  have base := WEs.items pos args hs h g s a
  have fin : wpAny (model Γ.prog Γ.w) Γ.A (spliced (backTo pos (starEach args Γ.env))) (fun vs s' => P ⟨vs, []⟩ s') X s :=
    wpAny_mono base (fun vs s' p => by obtain ⟨g', σ', ds, h', tk, rfl, t, a', r, q⟩ := p; exact k g' σ' ds vs h' tk t a' r q) fun _ _ f => f.elim
  cases args with
  | nil =>
    refine evalArgs_nil3 ?_
    exact k g σ [] [] s.heap s.toks (Tr.refl ..) a rfl h
  | cons e es =>
    simp only [List.all_cons, Bool.and_eq_true] at hs
    rw [starEach_cons hs.1] at fin ⊢
    exact Calls.evalArgs_plain fin

abbrev QCall (Γ : Cx) (fv : Value) (Q : D → St → Prop) (ds : List D) (σ : St) : Prop := WCall Γ fv ds Q σ
/-- a def of the module called by its name -/
theorem WE.call {x : Str} {px pos : Pos} {args : List Expr} {f : Addr} {d : DefRec} {Q : D → St → Prop} (hk : Γ.env.kindOf x = some .globalImplicit) (hf : Γ.mg x = some (.ref f)) (hx : d.name = x) (hd : d ∈ Γ.recs)
    (h : WEs Γ args (QCall Γ (.ref f) Q) σ) (hs : args.all notStar = true := by rfl) (hdb : (x == ("__debug__" : Str)) = false := by decide) : WE Γ (.Call (.Name x px) args [] pos) Q σ := fun g s a => by
  refine wpAny_Call_NameR (eval_global a hk hf ?_ hdb)
  obtain ⟨f', o, pm, cd, doc, e1, e2, e3, e4⟩ := a.ok.fn d hd
  rw [hx, hf] at e1; cases e1
  refine Calls.callWith_function (o := o) (fd := Calls.docDef d.name d.params d.body d.scope pm cd doc) (evalArgs_of hs h a fun g' σ' ds vs h' tk t a' r q => ⟨⟨a'.keep _ _ e2, e3⟩, ?_⟩)
  exact wpAny_neverE (wpAny_mono (q g' _ vs a' r) (fun _ _ p => PostE.tr t p) fun _ _ f => f)

/-- a built-in function or a built-in class called by its name -/
def CallOk (Γ : Cx) (fv : Value) (ds : List D) (d : D) : Prop := ∀ g σ (s : Shared) vs, At Γ g σ s.heap → RepVs Γ.toWd g s.heap ds vs → wpAny (model Γ.prog Γ.w) Γ.A (call fv vs) (PR Γ g s d) NoE s
def CallOkS (Γ : Cx) (σ : St) (fv : Value) (ds : List D) (d : D) : Prop := ∀ g (s : Shared) vs, At Γ g σ s.heap → RepVs Γ.toWd g s.heap ds vs → wpAny (model Γ.prog Γ.w) Γ.A (call fv vs) (PR Γ g s d) NoE s
inductive QOk (Γ : Cx) (fv : Value) (Q : D → St → Prop) (ds : List D) (σ : St) : Prop
  | mk (d : D) (ok : CallOkS Γ σ fv ds d) (q : Q d σ)
theorem CallOk.here {fv ds d} (h : CallOk Γ fv ds d) : CallOkS Γ σ fv ds d := fun g s vs a => h g σ s vs a

theorem PR.postQ {d : D} {v : Value} {s' : Shared} {Q : D → St → Prop} {g' : Gh} {σ' : St} {h' : Heap} {tk : Nat} (t : Tr Γ g s.heap g' h') (a : At Γ g' σ' h') (q : Q d σ') (p : PR Γ g' { s with heap := h', toks := tk } d v s') : PostE Γ g s Q v s' :=
  PostE.tr t (p.post a q)

theorem WE.callB {x : Str} {px pos : Pos} {args : List Expr} {id : String} {Q : D → St → Prop} (hk : Γ.env.kindOf x = some .globalImplicit) (hm : Γ.mg x = none) (hb : Γ.mb x = some (.builtin id))
    (h : WEs Γ args (QOk Γ (.builtin id) Q) σ) (hs : args.all notStar = true := by rfl) (hdb : (x == ("__debug__" : Str)) = false := by decide) : WE Γ (.Call (.Name x px) args [] pos) Q σ := fun g s a => by
  refine wpAny_Call_NameR (eval_builtin a hk hm hb ?_ hdb)
  refine Calls.callWith_builtin (backTo_plain _ _ _ hs) (evalArgs_of hs h a fun g' σ' ds vs h' tk t a' r q => ?_)
  obtain ⟨d, ok, q⟩ := q
  exact wpAny_neverE (wpAny_mono (ok g' _ vs a' r) (fun _ _ p => PR.postQ t a' q p) fun _ _ f => f)
theorem WE.callT {x : Str} {px pos : Pos} {args : List Expr} {T : String} {Q : D → St → Prop} (hk : Γ.env.kindOf x = some .globalImplicit) (hm : Γ.mg x = none) (hb : Γ.mb x = some (.type T))
    (h : WEs Γ args (QOk Γ (.type T) Q) σ) (hs : args.all notStar = true := by rfl) (hdb : (x == ("__debug__" : Str)) = false := by decide) : WE Γ (.Call (.Name x px) args [] pos) Q σ := fun g s a => by
  refine wpAny_Call_NameR (eval_builtin a hk hm hb ?_ hdb)
  refine PySem.callWith_type (backTo_plain _ _ _ hs) (evalArgs_of hs h a fun g' σ' ds vs h' tk t a' r q => ?_)
  obtain ⟨d, ok, q⟩ := q
  exact wpAny_neverE (wpAny_mono (ok g' _ vs a' r) (fun _ _ p => PR.postQ t a' q p) fun _ _ f => f)
end
end Mine

namespace Mine

section
variable {Γ : Cx} {σ : St}

theorem BinOk.add_int {a b : Int} : BinOk Γ .Add (.int a) (.int b) (.int (a + b)) := fun g σ s va vb _ ⟨_, ha⟩ ⟨_, hb⟩ => by
  subst ha; subst hb; exact PyProof.Rows.add_int (PR.pure fun _ _ => ⟨_, rfl⟩)
theorem BinOk.sub_int {a b : Int} : BinOk Γ .Sub (.int a) (.int b) (.int (a - b)) := fun g σ s va vb _ ⟨_, ha⟩ ⟨_, hb⟩ => by
  subst ha; subst hb; exact PyProof.Rows.sub_int (PR.pure fun _ _ => ⟨_, rfl⟩)
theorem BinOk.mul_int {a b : Int} (h : IntMulOk a b) : BinOk Γ .Mult (.int a) (.int b) (.int (a * b)) := fun g σ s va vb _ ⟨_, ha⟩ ⟨_, hb⟩ => by
  subst ha; subst hb; exact PyProof.Rows.mul_int (PR.pure fun _ _ => ⟨_, rfl⟩) h
theorem BinOk.mod_int {a b : Int} (h : b ≠ 0) : BinOk Γ .Mod (.int a) (.int b) (.int (a.fmod b)) := fun g σ s va vb _ ⟨_, ha⟩ ⟨_, hb⟩ => by
  subst ha; subst hb; exact PyProof.Rows.mod_int h (PR.pure fun _ _ => ⟨_, rfl⟩)
theorem BinOk.fdiv_int {a b : Int} (h : b ≠ 0) (hp : Builtin.divisionGoesByPylong a b = false) : BinOk Γ .FloorDiv (.int a) (.int b) (.int (a.fdiv b)) := fun g σ s va vb _ ⟨_, ha⟩ ⟨_, hb⟩ => by
  subst ha; subst hb; exact PyProof.Rows.floordiv_int h (PR.pure fun _ _ => ⟨_, rfl⟩) (.inl hp)
theorem BinOk.pow_int {a n : Int} (hn : 0 ≤ n) (hn2 : n ≤ 1000000) (ha : a.natAbs < 2 ^ 64) : BinOk Γ .Pow (.int a) (.int n) (.int (a ^ n.toNat)) := fun g σ s va vb _ ⟨_, h1⟩ ⟨_, h2⟩ => by
  subst h1; subst h2; exact PyProof.Rows.pow_int_small hn hn2 ha (PR.pure fun _ _ => ⟨_, rfl⟩)
theorem BinOk.shr_int {a n : Int} (hn : 0 ≤ n) : BinOk Γ .RShift (.int a) (.int n) (.int (a.fdiv (2 ^ n.toNat))) := fun g σ s va vb _ ⟨_, h1⟩ ⟨_, h2⟩ => by
  subst h1; subst h2; exact PyProof.Rows.rshift_int hn (PR.pure fun _ _ => ⟨_, rfl⟩)
theorem BinOk.and_int {a b : Int} : BinOk Γ .BitAnd (.int a) (.int b) (.int (Builtin.bitAnd a b)) := fun g σ s va vb _ ⟨_, h1⟩ ⟨_, h2⟩ => by
  subst h1; subst h2; exact PyProof.Rows.and_int (PR.pure fun _ _ => ⟨_, rfl⟩)

theorem PR.ofBool {g : Gh} {s : Shared} {b : Bool} : PR Γ g s (.bool b) (.bool b) s := PR.pure (tk := s.toks) fun _ _ => rfl

theorem CmpOk.lt_int {a b : Int} : CmpOk Γ .Lt (.int a) (.int b) (decide (a < b)) := fun g σ s va vb _ ⟨_, h1⟩ ⟨_, h2⟩ => by
  subst h1; subst h2; exact PyProof.Rows.lt_int PR.ofBool
theorem CmpOk.gt_int {a b : Int} : CmpOk Γ .Gt (.int a) (.int b) (decide (b < a)) := fun g σ s va vb _ ⟨_, h1⟩ ⟨_, h2⟩ => by
  subst h1; subst h2; exact PyProof.Rows.gt_int PR.ofBool
theorem CmpOk.le_int {a b : Int} : CmpOk Γ .LtE (.int a) (.int b) (decide (a ≤ b)) := fun g σ s va vb _ ⟨_, h1⟩ ⟨_, h2⟩ => by
  subst h1; subst h2; exact PyProof.Rows.le_int PR.ofBool
theorem CmpOk.ge_int {a b : Int} : CmpOk Γ .GtE (.int a) (.int b) (decide (b ≤ a)) := fun g σ s va vb _ ⟨_, h1⟩ ⟨_, h2⟩ => by
  subst h1; subst h2; exact PyProof.Rows.ge_int PR.ofBool
theorem CmpOk.eq_int {a b : Int} : CmpOk Γ .Eq (.int a) (.int b) (decide (a = b)) := fun g σ s va vb _ ⟨_, h1⟩ ⟨_, h2⟩ => by
  subst h1; subst h2; exact PyProof.Rows.eq_int PR.ofBool
theorem CmpOk.ne_str {a b : Str} : CmpOk Γ .NotEq (.str a) (.str b) (decide (a ≠ b)) := fun g σ s va vb _ ⟨_, h1⟩ ⟨_, h2⟩ => by
  subst h1; subst h2; refine PyProof.Rows.ne_str ?_; rw [show (a != b) = decide (a ≠ b) from by by_cases q : a = b <;> simp [q]]; exact PR.ofBool
end
end Mine

namespace Mine

section
variable {Γ : Cx} {σ : St} {E : ExPost}

theorem seqIdx {i : Int} {n : Nat} (h0 : 0 ≤ i) (h : i.toNat < n) : seqIndex? i n = some i.toNat := by
  unfold seqIndex?
  have h1 : ¬ i < 0 := by lia
  have h2 : (0 ≤ i ∧ i < (n : Int)) := ⟨h0, by lia⟩
  simp [h1, h2.1, h2.2]

/-- an item by an index or a key -/
def ItemOk (Γ : Cx) (σ : St) (a i d : D) : Prop := ∀ g (s : Shared) va vi, At Γ g σ s.heap → RepV Γ.toWd g s.heap a va → RepV Γ.toWd g s.heap i vi →
  (∃ T id, s.TypeIs va T ∧ typeLookup (.type T) "__getitem__" = pure (some (.builtin id))) ∧ wpAny (model Γ.prog Γ.w) Γ.A (getItem va vi) (PR Γ g s d) NoE s

inductive QSub2 (Γ : Cx) (a : D) (Q : D → St → Prop) (i : D) (σ : St) : Prop
  | mk (d : D) (ok : ItemOk Γ σ a i d) (q : Q d σ)
abbrev QSub (Γ : Cx) (slice : Expr) (Q : D → St → Prop) (a : D) (σ : St) : Prop := WE Γ slice (QSub2 Γ a Q) σ
theorem WE.sub {value slice : Expr} {pos : Pos} {Q : D → St → Prop} (h : WE Γ value (QSub Γ slice Q) σ)
    (hs : ∀ o i, subscripted slice false o i = operate [o, i] (getItem o i) := by intro _ _; with_unfolding_all rfl) : WE Γ (.Subscript value slice pos) Q σ := fun g s a => by
  refine Subscript_ (WE.use h a fun va g₁ σ₁ da h₁ tk₁ t₁ a₁ r₁ q₁ => WE.use q₁ a₁ fun vi g₂ σ₂ di h₂ tk₂ t₂ a₂ r₂ q₂ => ?_)
  obtain ⟨d, ok, q⟩ := q₂
  obtain ⟨⟨T, id, hT, hl⟩, w⟩ := ok g₂ { s with heap := h₂, toks := tk₂ } va vi a₂ (r₁.tr t₂) r₂
  exact tail_any hT hl (wpAny_mono w (fun v s' p => PR.postQ (t₁.trans t₂) a₂ q p) fun _ _ f => f) (hs _ _)

inductive QPart (Q : Option Int → St → Prop) (d : D) (σ : St) : Prop
  | mk (i : Int) (e : d = .int i) (q : Q (some i) σ)
/-- a bound of a cut -/
def WPart (Γ : Cx) (e : Option Expr) (Q : Option Int → St → Prop) (σ : St) : Prop := match e with
  | none => Q none σ
  | some e => WE Γ e (QPart Q) σ
theorem WPart.use {e : Option Expr} {Q : Option Int → St → Prop} {g : Gh} {s : Shared} {P : Value → Shared → Prop} (w : WPart Γ e Q σ) (a : At Γ g σ s.heap)
    (h : ∀ v k g' σ' h' tk, IsPart v k → Tr Γ g s.heap g' h' → At Γ g' σ' h' → Q k σ' → P v { s with heap := h', toks := tk }) : wpAny (model Γ.prog Γ.w) Γ.A (evalPart e Γ.env) P NoE s := by
  cases e with
  | none => exact wpAny_evalPart_none (h .none none g σ s.heap s.toks .none (Tr.refl ..) a w)
  | some e =>
    refine wpAny_evalPart_some (WE.use w a fun v g' σ' d h' tk t a' r q => ?_)
    obtain ⟨i, rfl, q⟩ := q
    obtain ⟨t', rfl⟩ := r
    exact h _ _ g' σ' h' tk (.int i t') t a' q

def SliceOk (Γ : Cx) (σ : St) (a : D) (lo hi : Option Int) (d : D) : Prop := ∀ g (s : Shared) va vl vu sl, At Γ g σ s.heap → RepV Γ.toWd g s.heap a va → IsPart vl lo → IsPart vu hi → s.heap.IsSliceOf sl vl vu .none →
  (∃ T id, s.TypeIs va T ∧ typeLookup (.type T) "__getitem__" = pure (some (.builtin id))) ∧ wpAny (model Γ.prog Γ.w) Γ.A (getItem va (.ref sl)) (PR Γ g s d) NoE s

inductive QSl3 (Γ : Cx) (a : D) (l : Option Int) (Q : D → St → Prop) (u : Option Int) (σ : St) : Prop
  | mk (d : D) (ok : SliceOk Γ σ a l u d) (q : Q d σ)
abbrev QSl2 (Γ : Cx) (hi : Option Expr) (a : D) (Q : D → St → Prop) (l : Option Int) (σ : St) : Prop := WPart Γ hi (QSl3 Γ a l Q) σ
abbrev QSl (Γ : Cx) (lo hi : Option Expr) (Q : D → St → Prop) (a : D) (σ : St) : Prop := WPart Γ lo (QSl2 Γ hi a Q) σ
theorem WE.slice {value : Expr} {lo hi : Option Expr} {p pos : Pos} {Q : D → St → Prop} (h : WE Γ value (QSl Γ lo hi Q) σ) :
    WE Γ (.Subscript value (.Slice lo hi none p) pos) Q σ := fun g s a => by
  refine Subscript_ (WE.use h a fun va g₁ σ₁ da h₁ tk₁ t₁ a₁ r₁ q₁ => wpAny_Slice (WPart.use q₁ a₁ fun vl kl g₂ σ₂ h₂ tk₂ pl t₂ a₂ q₂ => WPart.use q₂ a₂ fun vu ku g₃ σ₃ h₃ tk₃ pu t₃ a₃ q₃ => wpAny_evalPart_none ?_))
  obtain ⟨d, ok, q⟩ := q₃
  have hk := kept_push h₃ { cls := .type "slice", data := .fields #[vl, vu, .none] }
  have t4 : Tr Γ g₃ h₃ g₃ (h₃.push { cls := .type "slice", data := .fields #[vl, vu, .none] }) := Tr.kept hk
  have a4 : At Γ g₃ σ₃ (h₃.push { cls := .type "slice", data := .fields #[vl, vu, .none] }) := a₃.move hk
  obtain ⟨⟨T, id, hT, hl⟩, w⟩ := ok g₃ { s with heap := h₃.push { cls := .type "slice", data := .fields #[vl, vu, .none] }, toks := tk₃ } va vl vu h₃.objs.size a4 (((r₁.tr t₂).tr t₃).tr t4) pl pu (Heap.IsSliceOf.new ..)
  exact tail_any (ops := [.ref h₃.objs.size, va]) hT hl (wpAny_mono w (fun v s' p => PR.postQ (((t₁.trans t₂).trans t₃).trans t4) a4 q p) fun _ _ f => f) rfl

theorem listFits {n : Nat} (h : n ≤ sizeLine) : (n : Int) < 2 ^ 63 := by rw [sizeLine_eq] at h; lia

theorem ItemOk.lst {ds : List D} {i : Int} {d : D} (h0 : 0 ≤ i) (hfit : i < 2 ^ 63) (hd : ds[i.toNat]? = some d) : ItemOk Γ σ (.lst ds) (.int i) d := fun g s va vi a r ri => by
  obtain ⟨x, vs, rfl, zx, hl, rs⟩ := r
  obtain ⟨t, rfl⟩ := ri
  obtain ⟨v, hv, rv⟩ := rs.get hd
  exact ⟨⟨"list", _, hl.typeIs, slot_list_getitem.lookup⟩, wpAny_getItem_list hl h0 hfit (by simpa using hv) (PR.here (tk := s.toks) (RepV.of rv))⟩
theorem ItemOk.own {j : Nat} {ds : List D} {i : Int} {d : D} (hj : σ.own[j]? = some (.lst ds)) (h0 : 0 ≤ i) (hfit : i < 2 ^ 63) (hd : ds[i.toNat]? = some d) : ItemOk Γ σ (.own j) (.int i) d := fun g s va vi a r ri => by
  obtain ⟨x, hx, rfl⟩ := r
  obtain ⟨t, rfl⟩ := ri
  obtain ⟨x', hx', ⟨vs, hl, rs⟩, _⟩ := a.own j _ hj
  rw [hx] at hx'; cases hx'
  obtain ⟨v, hv, rv⟩ := rs.get hd
  exact ⟨⟨"list", _, hl.isList.typeIs, slot_list_getitem.lookup⟩, wpAny_getItem_list hl.isList h0 hfit (by simpa using hv) (PR.here (tk := s.toks) (RepV.of rv))⟩
theorem ItemOk.tup {ds : List D} {i : Int} {d : D} (h0 : 0 ≤ i) (hfit : i < 2 ^ 63) (hd : ds[i.toNat]? = some d) : ItemOk Γ σ (.tup ds) (.int i) d := fun g s va vi a r ri => by
  obtain ⟨x, vs, rfl, zx, hl, rs⟩ := r
  obtain ⟨t, rfl⟩ := ri
  obtain ⟨v, hv, rv⟩ := rs.get hd
  have hlen : i.toNat < vs.length := (List.getElem?_eq_some_iff.mp hv).1
  have hT : s.TypeIs (.ref x) "tuple" := by obtain ⟨o, e, c, _⟩ := hl; exact ⟨o, e, c⟩
  exact ⟨⟨"tuple", _, hT, F.slot_tuple_getitem.lookup⟩, PyProof.Rows.getItem_tuple (j := i.toNat) hl (by lia) hfit (by rw [List.size_toArray]; exact seqIdx h0 hlen) (by simpa using hv) (PR.here (tk := s.toks) (RepV.of rv))⟩
theorem ItemOk.bytes {ns : List Int} {i : Int} {k : Int} (hfit : ns.length ≤ 1099511627776) (h0 : 0 ≤ i) (hk : ns[i.toNat]? = some k) : ItemOk Γ σ (.bytes ns) (.int i) (.int k) := fun g s va vi a r ri => by
  obtain ⟨b, t, rfl, hb⟩ := r
  obtain ⟨t', rfl⟩ := ri
  have hlen : i.toNat < ns.length := (List.getElem?_eq_some_iff.mp hk).1
  have hT := typeIs_bytes s b t
  refine ⟨⟨"bytes", _, hT, FB.slot_bytes_getitem.lookup⟩, ?_⟩
  subst hb
  have hs : (KBw.bInts b).length = b.size := KBw.ints_length b
  rw [hs] at hlen hfit
  obtain ⟨c, hc⟩ : ∃ c, b[i.toNat]? = some c := ⟨b[i.toNat], Array.getElem?_eq_getElem hlen⟩
  have e := KBw.ints_get hc
  rw [hk] at e; cases e
  have key : wpAny (model Γ.prog Γ.w) Γ.A (getItem (.bytes b t) (.int i t')) (PR Γ g s (.int (c.toNat : Int))) NoE s := by
    refine getItem_gives hT (by decide) FB.slot_bytes_getitem FB.entry_bytes_getitem (FB.args_bytes_getitem_2 _ _) (gives_bytes_getitem b i t t' c ?_ ?_) (PR.pure fun _ _ => ⟨_, rfl⟩)
    · simp only [Builtin.Bytes.fitsIndex, Bool.and_eq_true, decide_eq_true_eq]; lia
    · rw [seqIdx h0 hlen]; simpa using hc
  exact key

theorem SliceOk.list {ds : List D} {lo hi : Option Int} (hz : ds.length ≤ sizeLine) :
    SliceOk Γ σ (.lst ds) lo hi (.lst ((ds.drop (lo.elim 0 (clipAt ds.length))).take (hi.elim ds.length (clipAt ds.length) - lo.elim 0 (clipAt ds.length)))) := fun g s va vl vu sl a r pl pu hs => by
  obtain ⟨x, vs, rfl, zx, hl, rs⟩ := r
  have hlen : vs.length = ds.length := rs.length
  refine ⟨⟨"list", _, hl.typeIs, slot_list_getitem.lookup⟩, wpAny_getItem_list_slice hl hs pl pu .none (by simp) ?_ (by rw [List.size_toArray, hlen]; exact hz)⟩
  rw [slicePick_plain]
  simp only [List.size_toArray, hlen]
  refine PR.keep (tk := s.toks) (kept_push _ _) (RepV.of ⟨_, _, rfl, fresh_z (fresh_size _) (Heap.get?_push_size _ rfl), ⟨_, Heap.get?_push_size _ rfl, rfl, _, rfl⟩, ?_⟩)
  exact ((rs.drop _).take _).grow (kept_push _ _)
theorem SliceOk.bytes {ns : List Int} {lo hi : Option Int} (hz : ns.length ≤ sizeLine) :
    SliceOk Γ σ (.bytes ns) lo hi (.bytes ((ns.drop (lo.elim 0 (clipAt ns.length))).take (hi.elim ns.length (clipAt ns.length) - lo.elim 0 (clipAt ns.length)))) := fun g s va vl vu sl a r pl pu hs => by
  obtain ⟨b, t, rfl, hb⟩ := r
  refine ⟨⟨"bytes", _, typeIs_bytes s b t, FB.slot_bytes_getitem.lookup⟩, ?_⟩
  refine getItem_meets (typeIs_bytes _ _ _) (by decide) FB.slot_bytes_getitem FB.entry_bytes_getitem (FB.args_bytes_getitem_2 _ _) (KBc.meets_slice2 b t _ pl pu) ⟨hs, ?_, fun t' k => ?_⟩
  · exact Nat.le_trans (KBc.size_picked_le b lo hi) (by rw [← KBw.ints_length b, hb]; exact hz)
  · exact PR.pure fun _ _ => ⟨_, _, rfl, KBc.ints_picked hb lo hi⟩

theorem CallOk.len_lst {ds : List D} (hz : ds.length ≤ sizeLine) : CallOk Γ (.builtin "len") [.lst ds] (.int ds.length) := fun g σ s vs a r => by
  obtain ⟨v, ws, rfl, ⟨x, us, rfl, zx, hl, rs⟩, e⟩ := r
  cases e
  have hlen : us.length = ds.length := rs.length
  refine Calls.call_len_list hl (by rw [List.size_toArray, hlen]; exact listFits hz) ?_
  rw [List.size_toArray, hlen]
  exact PR.pure fun _ _ => ⟨_, rfl⟩
theorem CallOkS.len_own {j : Nat} {ds : List D} (hj : σ.own[j]? = some (.lst ds)) (hz : ds.length ≤ sizeLine) : CallOkS Γ σ (.builtin "len") [.own j] (.int ds.length) := fun g s vs a r => by
  obtain ⟨v, ws, rfl, ⟨x, hx, rfl⟩, e⟩ := r
  cases e
  obtain ⟨x', hx', ⟨us, hl, rs⟩, _⟩ := a.own j _ hj
  rw [hx] at hx'; cases hx'
  have hlen : us.length = ds.length := rs.length
  refine Calls.call_len_list hl.isList (by rw [List.size_toArray, hlen]; exact listFits hz) ?_
  rw [List.size_toArray, hlen]
  exact PR.pure fun _ _ => ⟨_, rfl⟩
theorem CallOk.len_bytes {ns : List Int} (hz : ns.length ≤ 1099511627776) : CallOk Γ (.builtin "len") [.bytes ns] (.int ns.length) := fun g σ s vs a r => by
  obtain ⟨v, ws, rfl, ⟨b, t, rfl, hb⟩, e⟩ := r
  cases e
  exact KBw.len_K hb hz (PR.pure fun _ _ => ⟨_, rfl⟩)
theorem CallOk.len_str {x : Str} (hz : x.length ≤ sizeLine) : CallOk Γ (.builtin "len") [.str x] (.int x.length) := fun g σ s vs a r => by
  obtain ⟨v, ws, rfl, ⟨t, rfl⟩, e⟩ := r
  cases e
  refine PyProof.Rows.len_str (by have := listFits hz; lia) (PR.pure fun _ _ => ⟨_, rfl⟩)

theorem PB.pure {s : Shared} {b : Bool} {tk : Nat} : PB s b b { s with toks := tk } := ⟨rfl, s.heap, tk, rfl, fun _ _ e => e⟩
theorem TruthOk.bool {b : Bool} : TruthOk Γ σ (.bool b) b := fun g s va a r => by
  have : va = .bool b := r
  subst this
  exact wpAny_truthy_bool (PB.pure (tk := s.toks))
theorem TruthOk.lst {ds : List D} (hz : ds.length ≤ sizeLine) : TruthOk Γ σ (.lst ds) (!ds.isEmpty) := fun g s va a r => by
  obtain ⟨x, us, rfl, zx, hl, rs⟩ := r
  have hlen : us.length = ds.length := rs.length
  refine wpAny_truthy_list hl (by rw [List.size_toArray, hlen]; exact listFits hz) ?_
  have : (!us.toArray.isEmpty) = (!ds.isEmpty) := by cases us <;> cases ds <;> simp_all
  rw [this]
  exact PB.pure
theorem TruthOk.str {x : Str} (hz : x.length ≤ sizeLine) : TruthOk Γ σ (.str x) (decide (x.length ≠ 0)) := fun g s va a r => by
  obtain ⟨t, rfl⟩ := r
  refine PySem.P.truthy_str (by have := listFits hz; lia) ?_
  have : ((x.length : Int) != 0) = decide (x.length ≠ 0) := by by_cases q : x.length = 0 <;> simp [q]
  rw [this]
  exact PB.pure

/-- walks -/
theorem go_of {s : Shared} {I : Addr} {o : Obj} {T : String} {t : Expr} {v : Value} {Q : Unit → Shared → Prop} {X : Value → Shared → Prop} (ho : s.heap.get? I = some o) (hc : o.cls = .type T)
    (hT : (["enumerate", "zip", "dict_itemiterator", "dict_reverseitemiterator", "odict_iterator", "itertools.zip_longest", "itertools.pairwise"] : List String).contains T = false) (h : Q () s) : wpAny (model Γ.prog Γ.w) Γ.A (letOwnedTupleGo t (.ref I) v) Q X s := by
  have body : ∀ a : Addr, wpAny (model Γ.prog Γ.w) Γ.A (do
      let o ← load I
      match o.cls, o.data with
      | .type n, .fields vs =>
        if ["enumerate", "zip", "dict_itemiterator", "dict_reverseitemiterator", "odict_iterator", "itertools.zip_longest", "itertools.pairwise"].contains n && vs[0]? == some (rawInt a) then
          rule "for.unpacks-the-owned-tuple"
          updateField I 0 .none
      | _, _ => pure () : Sem Unit) Q X s := fun a => by
    refine wpAny_bind (wpAny_load ho ?_)
    rw [hc]
    cases hd : o.data with
    | fields vs =>
      dsimp only
      rw [hT, Bool.false_and]
      simp only [Bool.false_eq_true, if_false]
      exact wpAny_pure h
    | _ => exact wpAny_pure h
  unfold letOwnedTupleGo
  cases t <;> first | exact wpAny_pure h | (cases v <;> first | exact wpAny_pure h | exact body _)


theorem ItOk.lst {ds : List D} : ItOk Γ (.lst ds) ds := fun g σ s v a r => by
  obtain ⟨x, vs, rfl, zx, hl, rs⟩ := r
  have hlen : vs.length = ds.length := rs.length
  refine wpAny_pyIter_list hl ?_
  have hne : x ≠ s.heap.objs.size := fun e => by
    obtain ⟨o, eo, _⟩ := hl
    exact absurd (Heap.lt_size eo) (by rw [e]; exact Nat.lt_irrefl _)
  refine ⟨s.heap.objs.size, _, _, _, _, _, _, s.toks, rfl, rfl, Walks.list a.ok.hd s.heap.objs.size x hne vs.toArray, ⟨⟨_, Heap.get?_push_size _ rfl, rfl, rfl⟩, hl.push _⟩, kept_push _ _, ?_, ?_, ?_, ?_, ?_, ?_⟩
  · intro b hb; rw [List.mem_singleton.mp hb]; exact fresh_size _
  · intro i h' st b hb
    rw [List.mem_singleton.mp hb]
    obtain ⟨o, e, _⟩ := st.1
    exact live_of e
  · intro b hb
    rcases List.mem_cons.mp hb with q | q
    · exact .inl (by rw [q]; exact List.mem_singleton.mpr rfl)
    · exact .inr (by rw [List.mem_singleton.mp q]; exact zx)
  · rw [List.size_toArray, hlen]
  · intro i v hi hp
    have hi' : i < ds.length := by rw [← hlen]; simpa using hi
    obtain ⟨u, hu, ru⟩ := rs.get (List.getElem?_eq_getElem hi')
    have : v = u := by
      have hp' : vs[i]? = some v := by simpa using hp
      rw [hu] at hp'; cases hp'; rfl
    subst this
    exact ⟨_, List.getElem?_eq_getElem hi', ru⟩
  · intro i s' t v Q X st h
    obtain ⟨o, e, c, _⟩ := st.1
    exact go_of e c (by decide) h

theorem ItOk.bytes {ns : List Int} : ItOk Γ (.bytes ns) (ns.map .int) := fun g σ s v a r => by
  obtain ⟨b, t, rfl, hb⟩ := r
  refine KBw.pyIter_bytes ?_
  have hlen : b.size = ns.length := by rw [← hb, KBw.ints_length]
  refine ⟨s.heap.objs.size, _, _, _, _, _, _, s.toks, rfl, rfl, KBw.walks a.ok.hd s.heap.objs.size b t, ⟨_, Heap.get?_push_size _ rfl, rfl, rfl⟩, kept_push _ _, ?_, ?_, ?_, ?_, ?_, ?_⟩
  · intro b hb; rw [List.mem_singleton.mp hb]; exact fresh_size _
  · intro i h' st b hb
    rw [List.mem_singleton.mp hb]
    obtain ⟨o, e, _⟩ := st
    exact live_of e
  · intro b hb; exact .inl hb
  · rw [hlen]; simp
  · rintro i v hi ⟨c, u, hc, rfl⟩
    have := KBw.ints_get hc
    rw [hb] at this
    exact ⟨.int (c.toNat : Int), by rw [List.getElem?_map, this]; rfl, ⟨_, rfl⟩⟩
  · intro i s' t v Q X st h
    obtain ⟨o, e, c, _⟩ := st
    exact go_of e c (by decide) h

/-- the ints that a range gives -/
def rangeInts (a c : Int) (n : Nat) : List Int := (List.range n).map fun (k : Nat) => a + (k : Int) * c
theorem rangeInts_get {a c : Int} {n i : Nat} (h : i < n) : (rangeInts a c n)[i]? = some (a + (i : Int) * c) := by
  unfold rangeInts
  rw [List.getElem?_map, List.getElem?_range h]; rfl
theorem ItOk.rng {a b c : Int} {n : Nat} (hsmall : Builtin.Range.small a b c = true) (hsz : Builtin.Range.rangeSize a b c = (n : Int)) : ItOk Γ (.rng a b c) ((rangeInts a c n).map .int) := fun g σ s v at' r => by
  obtain ⟨x, t, u, w, rfl, zx, hr⟩ := r
  refine wpAny_pyIter_range hr hsmall ?_
  refine ⟨s.heap.objs.size, _, _, _, _, _, _, s.toks, rfl, rfl, Walks.range at'.ok.hd s.heap.objs.size a c n, ?_, kept_push _ _, ?_, ?_, ?_, ?_, ?_, ?_⟩
  · show IsRangeIter _ _ _ _ _
    rw [hsz]
    have := Heap.get?_push_size s.heap (o := { cls := .type "range_iterator", dict := none, data := .fields #[rawInt a, rawInt (n : Int), rawInt c] }) rfl
    simpa using this
  · intro b hb; rw [List.mem_singleton.mp hb]; exact fresh_size _
  · intro i h' st b hb
    rw [List.mem_singleton.mp hb]
    exact live_of st
  · intro b hb; exact .inl hb
  · simp [rangeInts]
  · rintro i v hi ⟨t, rfl⟩
    exact ⟨.int (a + (i : Int) * c), by rw [List.getElem?_map, rangeInts_get hi]; rfl, ⟨_, rfl⟩⟩
  · intro i s' t v Q X st h
    exact go_of st rfl (by decide) h

theorem CallOk.range1 {n : Int} : CallOk Γ (.type "range") [.int n] (.rng 0 n 1) := fun g σ s vs a r => by
  obtain ⟨v, ws, rfl, ⟨t, rfl⟩, e⟩ := r
  cases e
  refine call_range_1 (PR.keep (tk := s.toks + 1 + 1) (kept_push _ _) (RepV.of ⟨_, _, _, _, rfl, fresh_z (fresh_size _) (Heap.get?_push_size _ rfl), Heap.get?_push_size _ rfl⟩))
theorem CallOk.range3 {a b c : Int} (hc : c ≠ 0) (hp : Builtin.divisionGoesByPylong (b - a) c = false) : CallOk Γ (.type "range") [.int a, .int b, .int c] (.rng a b c) := fun g σ s vs at' r => by
  obtain ⟨v, ws, rfl, ⟨t, rfl⟩, v2, ws2, rfl, ⟨t2, rfl⟩, v3, ws3, rfl, ⟨t3, rfl⟩, e⟩ := r
  cases e
  refine call_range_3 hc (PR.keep (tk := s.toks) (kept_push _ _) (RepV.of ⟨_, _, _, _, rfl, fresh_z (fresh_size _) (Heap.get?_push_size _ rfl), Heap.get?_push_size _ rfl⟩)) (.inl hp)
end
end Mine

namespace Mine

section
variable {Γ : Cx} {σ : St} {E : ExPost}

theorem intsOf {h : Heap} {Z : Addr → Prop} {ns : List Int} {a : Addr} {vs : List Value} (hl : h.IsList a vs.toArray) (r : Reps Γ.toWd h Z (ns.map D.int) vs) :
    ∃ xs : Array (Int × Tok), h.IsList a (intItems xs) ∧ xs.toList.map (·.1) = ns ∧ xs.size = ns.length := by
  have hi := r.ints
  obtain ⟨xs, e⟩ := hi.allInts.items
  rw [e] at hl
  have e2 := hi.numsOf
  have : vs = vs.toArray.toList := rfl
  rw [this, e, nums_intItems] at e2
  exact ⟨xs, hl, e2, by rw [← e2]; simp⟩

theorem CallOk.max_lst {ns : List Int} {M : Int} (hM : M ∈ ns) (hm : ∀ a ∈ ns, a ≤ M) : CallOk Γ (.builtin "max") [.lst (ns.map .int)] (.int M) := fun g σ s vs a r => by
  obtain ⟨v, ws, rfl, ⟨x, us, rfl, zx, hl, rs⟩, e⟩ := r
  cases e
  obtain ⟨xs, hl, e, hsz⟩ := intsOf hl rs
  have hpos : 0 < ns.length := List.length_pos_of_mem hM
  refine max_intList a.ok.hd hl (by lia) fun v h' tk hv hk => ?_
  obtain ⟨t, rfl⟩ := intItems_at hv
  obtain ⟨h1, h2⟩ := argBest_gt (numAt xs) (xs.size - 1)
  have : numAt xs (argBest (fun i j => decide (numAt xs i > numAt xs j)) (xs.size - 1)) = M := by
    have a1 : M ≤ numAt xs (argBest (fun i j => decide (numAt xs i > numAt xs j)) (xs.size - 1)) := by
      obtain ⟨j, hj, hje⟩ := mem_getD hM
      have := h2 j (by lia)
      rw [numAt_eq, e, hje] at this
      exact this
    have a2 := hm _ (show numAt xs (argBest (fun i j => decide (numAt xs i > numAt xs j)) (xs.size - 1)) ∈ ns from by rw [numAt_eq, e]; exact getD_mem (by lia))
    lia
  rw [this]
  exact PR.plain hk fun _ _ => ⟨_, rfl⟩
theorem CallOk.min_lst {ns : List Int} {M : Int} (hM : M ∈ ns) (hm : ∀ a ∈ ns, M ≤ a) : CallOk Γ (.builtin "min") [.lst (ns.map .int)] (.int M) := fun g σ s vs a r => by
  obtain ⟨v, ws, rfl, ⟨x, us, rfl, zx, hl, rs⟩, e⟩ := r
  cases e
  obtain ⟨xs, hl, e, hsz⟩ := intsOf hl rs
  have hpos : 0 < ns.length := List.length_pos_of_mem hM
  refine min_intList a.ok.hd hl (by lia) fun v h' tk hv hk => ?_
  obtain ⟨t, rfl⟩ := intItems_at hv
  obtain ⟨h1, h2⟩ := argBest_lt (numAt xs) (xs.size - 1)
  have : numAt xs (argBest (fun i j => decide (numAt xs i < numAt xs j)) (xs.size - 1)) = M := by
    have a1 : numAt xs (argBest (fun i j => decide (numAt xs i < numAt xs j)) (xs.size - 1)) ≤ M := by
      obtain ⟨j, hj, hje⟩ := mem_getD hM
      have := h2 j (by lia)
      rw [numAt_eq (j := j), e, hje] at this
      exact this
    have a2 := hm _ (show numAt xs (argBest (fun i j => decide (numAt xs i < numAt xs j)) (xs.size - 1)) ∈ ns from by rw [numAt_eq, e]; exact getD_mem (by lia))
    lia
  rw [this]
  exact PR.plain hk fun _ _ => ⟨_, rfl⟩
theorem CallOk.sum_lst {ns : List Int} (hf : PySem.SumFits ns) : CallOk Γ (.builtin "sum") [.lst (ns.map .int)] (.int ns.sum) := fun g σ s vs a r => by
  obtain ⟨v, ws, rfl, ⟨x, us, rfl, zx, hl, rs⟩, e⟩ := r
  cases e
  obtain ⟨xs, hl, e, hsz⟩ := intsOf hl rs
  refine sum_intList a.ok.hd hl (fun j hj => ?_) fun h' tk t' hk => ?_
  · rw [numAt_eq, preSum_eq, e]; exact hf j (by lia)
  · rw [preSum_eq, List.take_of_length_le (by simp), e]
    exact PR.plain hk fun _ _ => ⟨_, rfl⟩
theorem CallOk.min_two {a b : Int} : CallOk Γ (.builtin "min") [.int a, .int b] (.int (if b < a then b else a)) := fun g σ s vs at' r => by
  obtain ⟨v, ws, rfl, ⟨t, rfl⟩, v2, ws2, rfl, ⟨t2, rfl⟩, e⟩ := r
  cases e
  refine min_two_ints at'.ok.hd fun h' tk hk => ?_
  by_cases q : b < a
  · rw [if_pos q, if_pos q]; exact PR.plain hk fun _ _ => ⟨_, rfl⟩
  · rw [if_neg q, if_neg q]; exact PR.plain hk fun _ _ => ⟨_, rfl⟩
theorem CallOk.abs {a : Int} : CallOk Γ (.builtin "abs") [.int a] (.int (a.natAbs : Int)) := fun g σ s vs at' r => by
  obtain ⟨v, ws, rfl, ⟨t, rfl⟩, e⟩ := r
  cases e
  refine PyProof.Rows.call_abs_int fun u tk => ?_
  rw [show (if a < 0 then -a else a) = (a.natAbs : Int) from by split <;> lia]
  exact PR.pure fun _ _ => ⟨_, rfl⟩
theorem CallOk.int_int {a : Int} : CallOk Γ (.type "int") [.int a] (.int a) := fun g σ s vs at' r => by
  obtain ⟨v, ws, rfl, ⟨t, rfl⟩, e⟩ := r
  cases e
  exact call_int_int (PR.pure (tk := s.toks) fun _ _ => ⟨_, rfl⟩)
theorem CallOk.bytes_lst {ns : List Int} (hr : ∀ n ∈ ns, 0 ≤ n ∧ n < 256) (hz : ns.length ≤ sizeLine) : CallOk Γ (.type "bytes") [.lst (ns.map .int)] (.bytes ns) := fun g σ s vs a r => by
  obtain ⟨v, ws, rfl, ⟨x, us, rfl, zx, hl, rs⟩, e⟩ := r
  cases e
  have hlen : us.length = ns.length := by rw [rs.length]; simp
  refine call_bytes_ints hl rs.ints hr (by lia) a.ok.hd fun h' t k hk => ?_
  exact PR.plain hk fun _ _ => ⟨_, _, rfl, KBa.ints_make hr⟩
theorem BinOk.add_lst {as bs : List D} (hz : as.length + bs.length ≤ sizeLine) : BinOk Γ .Add (.lst as) (.lst bs) (.lst (as ++ bs)) := fun g σ s va vb a ra rb => by
  obtain ⟨x, us, rfl, zx, hl, rs⟩ := ra
  obtain ⟨y, ws, rfl, zy, hl2, rs2⟩ := rb
  have e1 := rs.length
  have e2 := rs2.length
  obtain ⟨⟨cls, dd, data, sl⟩, ho, hc, n, hd⟩ := id hl
  obtain ⟨⟨cls2, dd2, data2, sl2⟩, ho2, hc2, n2, hd2⟩ := id hl2
  simp only at hc hd hc2 hd2
  subst hc hd hc2 hd2
  have e : us.toArray ++ ws.toArray = (us ++ ws).toArray := by simp
  refine concat_meets ⟨_, ho, rfl⟩ ⟨_, ho2, rfl⟩ noFill_list_add seq_list_add PySem.F.slot_list_add PySem.F.entry_list_add (PySem.F.args_list_add_2 _ _) (list_addW x y us.toArray ws.toArray n n2 dd dd2 sl sl2 (by simp only [List.size_toArray]; lia)) ⟨ho, ho2, ?_⟩
  rw [e]
  exact PR.keep (tk := s.toks) (kept_push _ _) (RepV.of ⟨_, _, rfl, fresh_z (fresh_size _) (Heap.get?_push_size _ rfl), ⟨_, Heap.get?_push_size _ rfl, rfl, _, rfl⟩, (rs.append rs2).grow (kept_push _ _)⟩)
end

section
variable {prog : Program} {w : World} {A : Around} {E : Value → Shared → Prop} {s : Shared}
def OctAt (b : Array UInt8) (i : Nat) (v : Value) : Prop := ∃ c u, b[i]? = some c ∧ v = .int (c.toNat : Int) u
theorem wpAny_extend_bytes {R : Result → Shared → Prop} (hh : A.handled = none) (x : Array UInt8) (t : Tok) (S : Addr) (res : Value) (c₀ : Nat) (hS : s.heap.get? S = some { cls := .type "list", data := .seq #[] c₀ })
    (hR : ∀ h' tk acc' c', (∀ b o, b ≠ S → s.heap.get? b = some o → h'.get? b = some o) → h'.get? S = some { cls := .type "list", dict := none, data := .seq acc' c', slots := #[] } →
      ItemsOf (OctAt x) acc' x.size → R (.ok (.ret res)) { s with heap := h', toks := tk }) (hn : x.size ≤ sizeLine) :
    wpAny (model prog w) A.in1 (Builtin.List.listExtendWith (.ref S) (.bytes x t) res)
      (fun fin s' => match fin with | .done f => R (.ok f) s' | .again c' => c'.quiet = true ∧ codeAny (model prog w) A c' R s') (fun e s' => R (.error e) s') s := by
  have hSI : S ≠ s.heap.objs.size := Nat.ne_of_lt (Heap.lt_size hS)
  have hSf : S ∉ [s.heap.objs.size] := fun hm => hSI (List.mem_singleton.mp hm)
  unfold Builtin.List.listExtendWith
  refine wpAny_bind (wpAny_typeOf (T := "bytes") (v := .bytes x t) rfl ?_)
  have h1 : Builtin.List.listSameRef (.ref S) (.bytes x t) = false := rfl
  have h2 : (Value.type "bytes" == Value.type "list") = false := by decide
  have h3 : (Value.type "bytes" == Value.type "tuple") = false := by decide
  simp only [h1, h2, h3, Bool.or_false, Bool.false_eq_true, if_false]
  refine wpAny_bind (KBw.pyIter_bytes ?_)
  refine wpAny_bind (wpAny_holding ?_)
  unfold Builtin.List.listLengthHint
  have hlen : typeLookup (.type "bytes") "__len__" = pure (some (.builtin "bytes.__len__")) := FB.slot_bytes_len.lookup
  refine wpAny_bind (wpAny_specialOf (T := "bytes") (v := .bytes x t) rfl hlen ?_)
  wp_delta
  refine wpAny_bind (wpAny_isInstance (T := "bytes") (v := .bytes x t) (b := true) rfl (by rw [isSubtype_type]; kernel_rfl) ?_)
  show wpAny _ _ (typeOf (Value.bytes x t) >>= _) _ _ _
  refine wpAny_bind (wpAny_typeOf (T := "bytes") (v := .bytes x t) rfl ?_)
  refine wpAny_pure ?_
  rw [if_neg (by decide)]
  refine wpAny_pure ⟨plainId_quiet F.plain_extend_loop _, codeAny_extend_loopS (KBw.walks (A := A.in1) hh s.heap.objs.size x t).toS hn _ hSf _ x.size 0 _ _ _ rfl (Nat.zero_le _) ⟨_, Heap.get?_push_size _ rfl, rfl, rfl⟩ (Heap.get?_push_of_some _ hS) (ItemsOf.nil _) fun s' acc' c' hm hS' hacc => ?_⟩
  rw [Moved.eq_with hm]
  refine hR s'.heap s'.toks acc' c' (fun b ob hb e => hm.heap b ob (fun hmem => ?_) (Heap.get?_push_of_some _ e)) hS' hacc
  rcases List.mem_cons.mp hmem with e' | hmem
  · exact hb e'
  · exact absurd (Heap.lt_size e) (by rw [List.mem_singleton.mp hmem]; exact Nat.lt_irrefl _)
end
end Mine

namespace Mine

structure MethIs (T : String) (name : Str) (id : String) : Prop where
  pa : PlainAttrs T
  slot : Slot T name id
  ty : typeOf (.builtin id) = pure (.type "method_descriptor")

theorem mJoin : MethIs "str" "join" "str.join" := ⟨F.plainAttrs_str, F.slot_str_join, F.type_str_join⟩
theorem mStarts : MethIs "str" "startswith" "str.startswith" := ⟨F.plainAttrs_str, F.slot_str_startswith, F.type_str_startswith⟩
theorem mGet : MethIs "dict" "get" "dict.get" := ⟨F.plainAttrs_dict, F.slot_dict_get, F.type_dict_get⟩
theorem mAppend : MethIs "list" "append" "list.append" := ⟨F.plainAttrs_list, F.slot_list_append, F.type_list_append⟩
theorem mExtend : MethIs "list" "extend" "list.extend" := ⟨F.plainAttrs_list, F.slot_list_extend, F.type_list_extend⟩

section
variable {Γ : Cx} {σ : St} {E : ExPost}

def SelfOk (Γ : Cx) (σ : St) (a : D) (T : String) : Prop := ∀ g (s : Shared) va, At Γ g σ s.heap → RepV Γ.toWd g s.heap a va → s.TypeIs va T ∧ (∀ x, va = .ref x → ∃ ob, s.heap.get? x = some ob ∧ ob.dict = none)
theorem SelfOk.str {x : Str} : SelfOk Γ σ (.str x) "str" := fun g s va a r => by
  obtain ⟨t, rfl⟩ := r
  exact ⟨typeIs_str _ _ _, fun _ e => nomatch e⟩
theorem SelfOk.own {i : Nat} {ds : List D} (hi : σ.own[i]? = some (.lst ds)) : SelfOk Γ σ (.own i) "list" := fun g s va a r => by
  obtain ⟨x, hx, rfl⟩ := r
  obtain ⟨x', hx', ⟨us, ⟨n, e⟩, rs⟩, _⟩ := a.own i _ hi
  rw [hx] at hx'; cases hx'
  exact ⟨⟨_, e, rfl⟩, fun y q => by cases q; exact ⟨_, e, rfl⟩⟩
theorem dictOfH_plain {h : Heap} {a : Addr} {xs : List (List Int × Addr × Value)} (x : h.DictOfH (tupleKind (PySem.intKind Γ.prog Γ.w)) a xs) : ∃ ob, h.get? a = some ob ∧ ob.cls = .type "dict" ∧ ob.dict = none :=
  by obtain ⟨o, es, ep, e, ⟨c, d, _⟩, _⟩ := x; exact ⟨o, e, c, d⟩
theorem SelfOk.tdct {ks : List (List Int)} {ds : List D} : SelfOk Γ σ (.tdct ks ds) "dict" := fun g s va a r => by
  obtain ⟨x, xs, rfl, zx, hs, hd, _⟩ := r
  obtain ⟨ob, e, c, n⟩ := dictOfH_plain hd
  exact ⟨⟨_, e, c⟩, fun y q => by cases q; exact ⟨_, e, n⟩⟩

theorem WCall.pure {fv : Value} {ds : List D} {d : D} {Q : D → St → Prop} (ok : CallOkS Γ σ fv ds d) (q : Q d σ) : WCall Γ fv ds Q σ := fun g s vs a r =>
  wpAny_mono (ok g s vs a r) (fun v s' p => p.post a q) fun _ _ f => f

abbrev QMeth2 (Γ : Cx) (id : String) (a : D) (Q : D → St → Prop) (ds : List D) (σ : St) : Prop := WCall Γ (.builtin id) (a :: ds) Q σ
structure QMeth (Γ : Cx) (T id : String) (args : List Expr) (Q : D → St → Prop) (a : D) (σ : St) : Prop where
  so : SelfOk Γ σ a T
  w : WEs Γ args (QMeth2 Γ id a Q) σ
theorem WE.method {o : Expr} {name : Str} {apos pos : Pos} {args : List Expr} {T id : String} {Q : D → St → Prop} (M : MethIs T name id)
    (h : WE Γ o (QMeth Γ T id args Q) σ)
    (hbase : attributeBase o name Γ.env (eval o Γ.env) = eval o Γ.env := by rfl)
    (hfew : ((backTo pos (starEach args Γ.env)).all (fun x => !x.1) && (backToKw pos (keywordEach [] Γ.env)).all (fun x => x.1.isSome) && decide (args.length + ([] : List Keyword).length + (if ([] : List Keyword).isEmpty then 0 else 1) < 30)) = true := by rfl)
    (hline : (apos.endLine == pos.line) = true := by rfl) (hs : args.all notStar = true := by rfl) : WE Γ (.Call (.Attribute o name apos) args [] pos) Q σ := fun g s a => by
  refine wpAny_Call_method hbase hfew hline M.pa M.slot M.ty (WE.use h a fun va g₁ σ₁ da h₁ tk₁ t₁ a₁ r₁ q₁ => ?_)
  obtain ⟨so, w⟩ := q₁
  obtain ⟨hT, hd⟩ := so g₁ { s with heap := h₁, toks := tk₁ } va a₁ r₁
  refine ⟨hT, hd, ?_⟩
  refine Calls.callWith_builtin (backTo_plain _ _ _ hs) (evalArgs_of hs w a₁ fun g' σ' ds vs h' tk t a' r q => ?_)
  exact wpAny_neverE (wpAny_mono (q g' _ (va :: vs) a' ⟨va, vs, rfl, r₁.tr t, r⟩) (fun _ _ p => PostE.tr (t₁.trans t) p) fun _ _ f => f)

theorem WCall.append {i : Nat} {ds : List D} {d : D} {Q : D → St → Prop} (hi : σ.own[i]? = some (.lst ds)) (hd : ∀ i, d ≠ .own i) (hz : ds.length ≤ sizeLine) (q : Q .none { σ with own := σ.own.set i (.lst (ds ++ [d])) }) :
    WCall Γ (.builtin "list.append") [.own i, d] Q σ := fun g s vs a r => by
  obtain ⟨v, ws, rfl, ⟨x, hx, rfl⟩, v2, ws2, rfl, r2, e⟩ := r
  cases e
  obtain ⟨x', hx', ⟨us, hp, rs⟩, nz⟩ := a.own i _ hi
  rw [hx] at hx'; cases hx'
  refine wpAny_list_append_plain hp (fun h' hp' hs' => ?_) (by rw [List.size_toArray, rs.length]; exact hz)
  have hlive : (h'.get? x).isSome = true := by obtain ⟨n, e⟩ := hp'; exact live_of e
  have kz : ∀ b o, g.z b → s.heap.get? b = some o → h'.get? b = some o := fun b o zb e => (hs'.2 b (fun q => nz nofun (q ▸ zb))).trans e
  refine ⟨g, _, .none, h', s.toks, rfl, Tr.updOwn a hi nofun hx (fun b o hb e => (hs'.2 b hb).trans e) hlive, At.updOwn (o' := .lst (ds ++ [d])) a hi nofun hx (fun b o hb e => (hs'.2 b hb).trans e) hlive ⟨us ++ [v2], ?_, ?_⟩, rfl, q⟩
  · rw [show (us ++ [v2]).toArray = us.toArray.push v2 from by simp]; exact hp'
  · exact (Reps.mono (fun _ z => z) kz _ rs).append (Reps.one (Rep.mono (fun _ z => z) kz _ (r2.rep hd)))

theorem list_extend {A : Around} {X : Value → Shared → Prop} {s : Shared} {x y : Addr} {us ws : List Value} {Q : Value → Shared → Prop} (hp : s.heap.PlainList x us.toArray) (hl : s.heap.IsList y ws.toArray) (hz : us.length + ws.length ≤ sizeLine)
    (hQ : ∀ h', h'.PlainList x (us ++ ws).toArray → Heap.SameBut x s.heap h' → Q .none { s with heap := h' }) : wpAny (model Γ.prog Γ.w) A (call (.builtin "list.extend") [.ref x, .ref y]) Q X s := by
  obtain ⟨n, ho⟩ := hp
  obtain ⟨o, ho2, hc2, n2, hd2⟩ := hl
  refine wpAny_call_entry F.slot_list_extend ⟨_, ho, rfl⟩ F.entry_list_extend ?_ (F.args_list_extend_2 _ _)
  show wpAny _ _ (Builtin.List.listExtendWith (.ref x) (.ref y) .none) _ _ s
  unfold Builtin.List.listExtendWith
  refine wpAny_bind (wpAny_typeOf ⟨o, ho2, hc2⟩ ?_)
  have h1 : (Builtin.List.listSameRef (.ref x) (.ref y) || Value.type "list" == Value.type "list" || Value.type "list" == Value.type "tuple") = true := by simp
  simp only [h1, if_true]
  refine wpAny_bind ?_
  unfold Builtin.List.listItems
  refine wpAny_bind (wpAny_seqItems ho2 hd2 (wpAny_pure ?_))
  refine wpAny_bind ?_
  refine wpAny_bind (wpAny_seqItems ho rfl (wpAny_pure ?_))
  have h2 : (!us.toArray.isEmpty && Builtin.List.listTooLong (us.toArray.size + ws.toArray.size)) = false := by
    unfold Builtin.List.listTooLong
    simp only [List.size_toArray]
    rw [decide_eq_false (by lia)]; simp
  rw [h2]
  simp only [Bool.false_eq_true, if_false]
  show wpAny _ _ (updateSeq x (· ++ ws.toArray) >>= fun _ => ret .none) _ _ s
  refine wpAny_bind (wpAny_updateSeq ho rfl ?_ (by rw [List.size_toArray]; lia) (by simp; lia))
  refine wpAny_pure ⟨.none, rfl, hQ _ ⟨if (us.toArray ++ ws.toArray).size == us.toArray.size then n else n + 1, ?_⟩ (Heap.SameBut.update ..)⟩
  have e : us.toArray ++ ws.toArray = (us ++ ws).toArray := by simp
  rw [Heap.get?_update_self _ ho rfl, ← e]
  rfl

theorem WCall.extend {i : Nat} {ds es : List D} {Q : D → St → Prop} (hi : σ.own[i]? = some (.lst ds)) (hz : ds.length + es.length ≤ sizeLine) (q : Q .none { σ with own := σ.own.set i (.lst (ds ++ es)) }) :
    WCall Γ (.builtin "list.extend") [.own i, .lst es] Q σ := fun g s vs a r => by
  obtain ⟨v, ws, rfl, ⟨x, hx, rfl⟩, v2, ws2, rfl, ⟨y, us2, rfl, zy, hl2, rs2⟩, e⟩ := r
  cases e
  obtain ⟨x', hx', ⟨us, hp, rs⟩, nz⟩ := a.own i _ hi
  rw [hx] at hx'; cases hx'
  have e1 := rs.length
  have e2 := rs2.length
  refine list_extend hp hl2 (by lia) fun h' hp' hs' => ?_
  have hlive : (h'.get? x).isSome = true := by obtain ⟨n, e⟩ := hp'; exact live_of e
  have kz : ∀ b o, g.z b → s.heap.get? b = some o → h'.get? b = some o := fun b o zb e => (hs'.2 b (fun q => nz nofun (q ▸ zb))).trans e
  exact ⟨g, _, .none, h', s.toks, rfl, Tr.updOwn a hi nofun hx (fun b o hb e => (hs'.2 b hb).trans e) hlive, At.updOwn (o' := .lst (ds ++ es)) a hi nofun hx (fun b o hb e => (hs'.2 b hb).trans e) hlive ⟨us ++ us2, hp', (Reps.mono (fun _ z => z) kz _ rs).append (Reps.mono (fun _ z => z) kz _ rs2)⟩, rfl, q⟩
/-- the same, another of the frame's own -/
theorem WCall.extendOwn {i j : Nat} {ds es : List D} {Q : D → St → Prop} (hi : σ.own[i]? = some (.lst ds)) (hj : σ.own[j]? = some (.lst es)) (hz : ds.length + es.length ≤ sizeLine) (q : Q .none { σ with own := σ.own.set i (.lst (ds ++ es)) }) :
    WCall Γ (.builtin "list.extend") [.own i, .own j] Q σ := fun g s vs a r => by
  obtain ⟨v, ws, rfl, ⟨x, hx, rfl⟩, v2, ws2, rfl, ⟨y, hy, rfl⟩, e⟩ := r
  cases e
  obtain ⟨x', hx', ⟨us, hp, rs⟩, nz⟩ := a.own i _ hi
  rw [hx] at hx'; cases hx'
  obtain ⟨y', hy', ⟨us2, hp2, rs2⟩, _⟩ := a.own j _ hj
  rw [hy] at hy'; cases hy'
  have e1 := rs.length
  have e2 := rs2.length
  refine list_extend hp hp2.isList (by lia) fun h' hp' hs' => ?_
  have hlive : (h'.get? x).isSome = true := by obtain ⟨n, e⟩ := hp'; exact live_of e
  have kz : ∀ b o, g.z b → s.heap.get? b = some o → h'.get? b = some o := fun b o zb e => (hs'.2 b (fun q => nz nofun (q ▸ zb))).trans e
  exact ⟨g, _, .none, h', s.toks, rfl, Tr.updOwn a hi nofun hx (fun b o hb e => (hs'.2 b hb).trans e) hlive, At.updOwn (o' := .lst (ds ++ es)) a hi nofun hx (fun b o hb e => (hs'.2 b hb).trans e) hlive ⟨us ++ us2, hp', (Reps.mono (fun _ z => z) kz _ rs).append (Reps.mono (fun _ z => z) kz _ rs2)⟩, rfl, q⟩

/-- texts -/
theorem Reps.strs {h : Heap} {Z : Addr → Prop} : ∀ {xs : List Str} {vs : List Value}, Reps Γ.toWd h Z (xs.map D.str) vs → StrsAre vs xs
  | [], _, r => by unfold Reps at r; subst r; exact .nil
  | n :: ns, _, r => by
    rw [List.map_cons] at r; unfold Reps at r; obtain ⟨v, ws, rfl, r1, r2⟩ := r
    unfold Rep at r1; obtain ⟨t, rfl⟩ := r1
    exact .cons _ _ (Reps.strs r2)
theorem CallOk.join {sep : Str} {xs : List Str} (hz : (xs.map (·.length)).sum + xs.length * sep.length ≤ 16777216) : CallOk Γ (.builtin "str.join") [.str sep, .lst (xs.map .str)] (.str (Txt.join sep xs)) := fun g σ s vs a r => by
  obtain ⟨v, ws, rfl, ⟨t, rfl⟩, v2, ws2, rfl, ⟨y, us2, rfl, zy, hl2, rs2⟩, e⟩ := r
  cases e
  exact PyProof.Rows.join_list hl2 rs2.strs hz fun t' k => PR.pure fun _ _ => ⟨_, rfl⟩
theorem CallOk.starts {x y : Str} : CallOk Γ (.builtin "str.startswith") [.str x, .str y] (.bool (Txt.startswith x y)) := fun g σ s vs a r => by
  obtain ⟨v, ws, rfl, ⟨t, rfl⟩, v2, ws2, rfl, ⟨t2, rfl⟩, e⟩ := r
  cases e
  exact call_gives F.slot_str_startswith (typeIs_str _ _ _) F.entry_str_startswith (F.args_str_startswith_2 _ _) (gives_str_startswith _ _ _ _) (PR.pure (tk := s.toks) fun _ _ => rfl)
end
end Mine

namespace Mine

/-- a tuple of ints -/
def dkey (k : List Int) : D := .tup (k.map .int)
def pkey (k : List Int) : PyData := .tuple (k.map .int)

section
variable {Γ : Cx} {σ : St} {E : ExPost}

theorem reads_ints {h : Heap} {Z : Addr → Prop} : ∀ {ns : List Int} {vs : List Value}, Reps Γ.toWd h Z (ns.map D.int) vs → ReadsAll h vs (ns.map PyData.int) []
  | [], _, r => by unfold Reps at r; subst r; exact .nil
  | n :: ns, _, r => by
    rw [List.map_cons] at r; unfold Reps at r; obtain ⟨v, ws, rfl, r1, r2⟩ := r
    unfold Rep at r1; obtain ⟨t, rfl⟩ := r1
    exact .cons (as := []) (bs := []) (.int n t) (reads_ints r2)
theorem reads_keys {h : Heap} {Z : Addr → Prop} : ∀ {kk : List (List Int)} {vs : List Value}, Reps Γ.toWd h Z (kk.map dkey) vs → ReadsAll h vs (kk.map pkey) []
  | [], _, r => by unfold Reps at r; subst r; exact .nil
  | n :: ns, _, r => by
    rw [List.map_cons] at r; unfold Reps at r; obtain ⟨v, ws, rfl, r1, r2⟩ := r
    unfold dkey Rep at r1; obtain ⟨a, us, rfl, za, ⟨o, e, c, m, d⟩, rs⟩ := r1
    exact .cons (as := []) (bs := []) (reads_tuple_at e c d (reads_ints rs)) (reads_keys r2)

theorem lay_ints (ns : List Int) : PyData.canLayAll0 (ns.map PyData.int) = true := by
  induction ns with
  | nil => simp [PyData.canLayAll0]
  | cons n ns ih => simp [PyData.canLayAll0, PyData.canLay0, ih]
theorem lay_keys (kk : List (List Int)) : PyData.canLayAll0 (kk.map pkey) = true := by
  induction kk with
  | nil => simp [PyData.canLayAll0]
  | cons n ns ih => simp [PyData.canLayAll0, PyData.canLay0, pkey, ih, lay_ints]
theorem depth_ints (ns : List Int) : PyData.depthAll (ns.map PyData.int) = 0 := by
  induction ns with
  | nil => simp [PyData.depthAll]
  | cons n ns ih => simp [PyData.depthAll, PyData.depth, ih]
theorem depth_keys (kk : List (List Int)) : PyData.depthAll (kk.map pkey) ≤ 1 := by
  induction kk with
  | nil => simp [PyData.depthAll]
  | cons n ns ih =>
    have := depth_ints n
    simp only [List.map_cons, PyData.depthAll, PyData.depth, pkey]
    lia
theorem shaped_ints (ns : List Int) : SeqAt.shaped (.list (ns.map .int)) = true := by
  unfold SeqAt.shaped
  rw [PyData.canLay0, lay_ints]
  simp [PyData.depth, depth_ints]
theorem shaped_keys (kk : List (List Int)) : SeqAt.shaped (.list (kk.map pkey)) = true := by
  unfold SeqAt.shaped
  rw [PyData.canLay0, lay_keys]
  have := depth_keys kk
  rw [Bool.true_and, PyData.depth]
  exact decide_eq_true (by lia)
theorem eqv_ints : ∀ (a b : List Int), PyData.eqvAll (a.map PyData.int) (b.map PyData.int) = decide (a = b)
  | [], [] => by simp [PyData.eqvAll]
  | [], _ :: _ => by simp [PyData.eqvAll]
  | _ :: _, [] => by simp [PyData.eqvAll]
  | x :: xs, y :: ys => by
    simp only [List.map_cons, PyData.eqvAll, PyData.eqv, eqv_ints xs ys]
    by_cases q : x = y <;> simp [q]
theorem eqv_keys : ∀ (a b : List (List Int)), PyData.eqvAll (a.map pkey) (b.map pkey) = decide (a = b)
  | [], [] => by simp [PyData.eqvAll]
  | [], _ :: _ => by simp [PyData.eqvAll]
  | _ :: _, [] => by simp [PyData.eqvAll]
  | x :: xs, y :: ys => by
    simp only [List.map_cons, PyData.eqvAll, eqv_keys xs ys]
    unfold pkey
    rw [PyData.eqv, eqv_ints]
    by_cases q : x = y <;> simp [q]

theorem At.room (a : CxOk Γ) : Γ.A.units + 64 < cLine := by have := a.un; lia

theorem CmpOk.eq_keys {a b : List (List Int)} : CmpOk Γ .Eq (.lst (a.map dkey)) (.lst (b.map dkey)) (decide (a = b)) := fun g σ s va vb at' ra rb => by
  obtain ⟨x, us, rfl, zx, ⟨o, e, c, m, d⟩, rs⟩ := ra
  obtain ⟨y, ws, rfl, zy, ⟨o2, e2, c2, m2, d2⟩, rs2⟩ := rb
  refine eq_dataH (reads_list_at e c d (reads_keys rs)) (reads_list_at e2 c2 d2 (reads_keys rs2)) (shaped_keys _) (shaped_keys _) (At.room at'.ok) ?_
  rw [PyData.eqv, eqv_keys]; exact PR.ofBool
theorem CmpOk.ne_keys {a b : List (List Int)} : CmpOk Γ .NotEq (.lst (a.map dkey)) (.lst (b.map dkey)) (decide (a ≠ b)) := fun g σ s va vb at' ra rb => by
  obtain ⟨x, us, rfl, zx, ⟨o, e, c, m, d⟩, rs⟩ := ra
  obtain ⟨y, ws, rfl, zy, ⟨o2, e2, c2, m2, d2⟩, rs2⟩ := rb
  refine ne_dataH (reads_list_at e c d (reads_keys rs)) (reads_list_at e2 c2 d2 (reads_keys rs2)) (shaped_keys _) (shaped_keys _) (At.room at'.ok) ?_
  rw [PyData.eqv, eqv_keys, show (!decide (a = b)) = decide (a ≠ b) from by simp]; exact PR.ofBool
theorem CmpOk.ne_ints {a b : List Int} : CmpOk Γ .NotEq (.lst (a.map .int)) (.lst (b.map .int)) (decide (a ≠ b)) := fun g σ s va vb at' ra rb => by
  obtain ⟨x, us, rfl, zx, ⟨o, e, c, m, d⟩, rs⟩ := ra
  obtain ⟨y, ws, rfl, zy, ⟨o2, e2, c2, m2, d2⟩, rs2⟩ := rb
  refine ne_dataH (reads_list_at e c d (reads_ints rs)) (reads_list_at e2 c2 d2 (reads_ints rs2)) (shaped_ints _) (shaped_ints _) (At.room at'.ok) ?_
  rw [PyData.eqv, eqv_ints, show (!decide (a = b)) = decide (a ≠ b) from by simp]; exact PR.ofBool
theorem CmpOk.ne_none : CmpOk Γ .NotEq .none .none false := fun g σ s va vb at' ra rb => by
  cases (show va = .none from ra); cases (show vb = .none from rb)
  refine ne_dataH (.none) (.none) (by decide) (by decide) (At.room at'.ok) ?_
  exact PR.ofBool

def D.isNone : D → Bool
  | .none => true
  | _ => false
theorem isNone_rep {g : Gh} {h : Heap} {d : D} {v : Value} (r : RepV Γ.toWd g h d v) : (v == .none) = d.isNone := by
  cases d with
  | none => cases (show v = .none from r); rfl
  | bool b => cases (show v = .bool b from r); rfl
  | int i => obtain ⟨t, rfl⟩ := r; rfl
  | str i => obtain ⟨t, rfl⟩ := r; rfl
  | bytes i => obtain ⟨b, t, rfl, _⟩ := r; rfl
  | tup ds => obtain ⟨a, _, rfl, _⟩ := r; rfl
  | lst ds => obtain ⟨a, _, rfl, _⟩ := r; rfl
  | sdct ks ds => obtain ⟨a, _, rfl, _⟩ := r; rfl
  | tdct ks ds => obtain ⟨a, _, rfl, _⟩ := r; rfl
  | cmap a b => obtain ⟨a, _, _, _, _, _, _, _, _, _, rfl, _⟩ := r; rfl
  | rng a b c => obtain ⟨a, _, _, _, rfl, _⟩ := r; rfl
  | own i => obtain ⟨a, _, rfl⟩ := r; rfl
theorem CmpOk.is_none {d : D} : CmpOk Γ .Is d .none d.isNone := fun g σ s va vb at' ra rb => by
  cases (show vb = .none from rb)
  rw [← isNone_rep ra]
  exact PyProof.Rows.is_none_gen PR.ofBool
theorem CmpOk.isnot_none {d : D} : CmpOk Γ .IsNot d .none (!d.isNone) := fun g σ s va vb at' ra rb => by
  cases (show vb = .none from rb)
  rw [← isNone_rep ra]
  exact PyProof.Rows.isnot_none_gen PR.ofBool

/-- tuples of ints, in order -/
theorem itemsAre {h : Heap} {Z : Addr → Prop} : ∀ {ns : List Int} {vs : List Value}, Reps Γ.toWd h Z (ns.map D.int) vs → ItemsAre (PySem.intKind Γ.prog Γ.w) ns vs
  | [], _, r => by unfold Reps at r; subst r; exact .nil
  | n :: ns, _, r => by
    rw [List.map_cons] at r; unfold Reps at r; obtain ⟨v, ws, rfl, r1, r2⟩ := r
    unfold Rep at r1; obtain ⟨t, rfl⟩ := r1
    exact .cons (intKind_is _ _ _ _) (itemsAre r2)
theorem isTupleKey {g : Gh} {h : Heap} {k : List Int} {v : Value} (r : RepV Γ.toWd g h (dkey k) v) : ∃ a, v = .ref a ∧ g.z a ∧ IsTupleKey (PySem.intKind Γ.prog Γ.w) h k a := by
  obtain ⟨a, us, rfl, za, ⟨o, e, c, m, d⟩, rs⟩ := r
  exact ⟨a, rfl, za, o, _, m, e, c, d, itemsAre rs⟩

noncomputable def lexGt : List Int → List Int → Bool
  | x :: xs, y :: ys => if x = y then lexGt xs ys else decide (y < x)
  | xs, ys => decide (ys.length < xs.length)

theorem tuple_gt_tree {prog : Program} {w : World} {A : Around} {E : Value → Shared → Prop} {s : Shared} {x y : List Int} {a b : Addr} {P : Fin → Shared → Prop} (hx : IsTupleKey (PySem.intKind prog w) s.heap x a) (hy : IsTupleKey (PySem.intKind prog w) s.heap y b) (h : P (.done (.ret (.bool (lexGt x y)))) s) :
    wpAny (model prog w) A (Builtin.«tuple.__gt__» ⟨[.ref a, .ref b], []⟩) P E s := by
  have hTb := hy.typeIs
  obtain ⟨oa, xs, na, hoa, _, hda, hia⟩ := hx
  obtain ⟨ob, ys, nb, hob, _, hdb, hib⟩ := hy
  show wpAny _ _ (isInstance (.ref b) (.type "tuple") >>= _) _ _ s
  refine wpAny_bind (wpAny_isInstance hTb isSubtype_tuple_tuple ?_)
  simp only [Bool.not_true, Bool.false_eq_true, if_false]
  refine wpAny_bind (wpAny_tupleItemsOf hoa hda ?_)
  refine wpAny_bind (wpAny_tupleItemsOf hob hdb ?_)
  refine wpAny_bind ?_
  refine wpAny_forIn_list _
    (fun rest r s' => r.1 = none ∧ s' = s ∧ ∃ x' y' xs' ys', rest = List.zip xs' ys' ∧ ItemsAre (PySem.intKind prog w) x' xs' ∧ ItemsAre (PySem.intKind prog w) y' ys' ∧ lexGt x' y' = lexGt x y ∧ ((ys'.length < xs'.length) = (ys.size < xs.size)))
    _ ?_ ?_ _ _ ⟨rfl, rfl, x, y, xs.toList, ys.toList, rfl, hia, hib, rfl, by simp⟩
  · rintro ⟨u, v⟩ rest r s' ⟨hr, rfl, x', y', xs', ys', hz, hx', hy', hdec, hlen⟩
    cases hx' with
    | nil => simp at hz
    | @cons k1 u' x'' xs'' h1 hx'' =>
      cases hy' with
      | nil => simp at hz
      | @cons k2 v' y'' ys'' h2 hy'' =>
        simp only [List.zip_cons_cons, List.cons.injEq, Prod.mk.injEq] at hz
        obtain ⟨⟨rfl, rfl⟩, rfl⟩ := hz
        refine wpAny_bind ((PySem.intKind prog w).eqBool (a := k1) (b := k2) h1 h2 ?_)
        by_cases hk : k1 = k2
        · subst hk
          rw [decide_eq_true rfl]
          simp only [Bool.not_true, Bool.false_eq_true, if_false]
          refine wpAny_pure ⟨rfl, rfl, x'', y'', xs'', ys'', rfl, hx'', hy'', ?_, by simpa using hlen⟩
          rw [← hdec]
          simp [lexGt]
        · rw [decide_eq_false hk]
          simp only [Bool.not_false, if_true]
          have hf : lexGt x y = decide (k2 < k1) := by rw [← hdec]; simp [lexGt, hk]
          rw [hf] at h
          obtain ⟨t1, rfl⟩ := Value.isInt_shape h1
          obtain ⟨t2, rfl⟩ := Value.isInt_shape h2
          refine wpAny_bind (wpAny_rule (wpAny_bind ?_))
          refine wpAny_mono (PyProof.Rows.gt_int (a := k1) (b := k2) (t := t1) (u := t2) (A := A) (s := s') (E := E) (Q := fun v s'' => v = .bool (decide (k2 < k1)) ∧ s'' = s') ⟨rfl, rfl⟩) (fun v s'' p => ?_) fun _ _ f => f
          obtain ⟨rfl, rfl⟩ := p
          exact wpAny_bind (wpAny_pure (wpAny_pure (wpAny_pure h)))
  · rintro ⟨r1, r2⟩ s' ⟨hr, rfl, x', y', xs', ys', hz, hx', hy', hdec, hlen⟩
    simp only at hr
    subst hr
    refine wpAny_pure ?_
    have hfin : decide (xs.size > ys.size) = lexGt x y := by
      rw [← hdec]
      have : decide (xs.size > ys.size) = decide (ys'.length < xs'.length) := by
        by_cases q : ys.size < xs.size
        · rw [decide_eq_true q, decide_eq_true (by rw [hlen]; exact q)]
        · rw [decide_eq_false q, decide_eq_false (by rw [hlen]; exact q)]
      rw [this]
      have e1 := hx'.length
      have e2 := hy'.length
      cases hx' with
      | nil => simp [lexGt, e2]
      | cons _ _ =>
        cases hy' with
        | nil => simp [lexGt]
        | cons _ _ => simp at hz
    show P (.done (.ret (.bool (decide (xs.size > ys.size))))) s'
    rw [hfin]; exact h

theorem CmpOk.gt_key {x y : List Int} : CmpOk Γ .Gt (dkey x) (dkey y) (lexGt x y) := fun g σ s va vb at' ra rb => by
  obtain ⟨a, rfl, za, hx⟩ := isTupleKey ra
  obtain ⟨b, rfl, zb, hy⟩ := isTupleKey rb
  have hu := at'.ok.un
  show wpAny _ _ (richCompare .Gt (.ref a) (.ref b)) _ _ s
  exact wpAny_richCompare_same_room (op := .Gt) hx.typeIs hy.typeIs F.slot_tuple_gt
      (wpAny_call_entry F.slot_tuple_gt hx.typeIs F.entry_tuple_gt (tuple_gt_tree hx hy ⟨_, rfl, (fun e => nomatch e), PR.ofBool⟩) (F.args_tuple_gt_2 _ _)) (by lia)
end
end Mine

namespace Mine

section
variable {κ : Type} [DecidableEq κ]
def look {δ : Type} (al : List (κ × δ)) (k : κ) : Option δ := (al.find? fun x => decide (x.1 = k)).map (·.2)
def put {δ : Type} (al : List (κ × δ)) (k : κ) (d : δ) : List (κ × δ) := if (look al k).isSome then al.map (fun x => if x.1 = k then (x.1, d) else x) else al ++ [(k, d)]
end
abbrev dtd (al : List (List Int × D)) : D := .tdct (al.map (·.1)) (al.map (·.2))
abbrev dsd (al : List (Str × D)) : D := .sdct (al.map (·.1)) (al.map (·.2))
abbrev otd (al : List (List Int × D)) : OO := .tdct (al.map (·.1)) (al.map (·.2))
abbrev osd (al : List (Str × D)) : OO := .sdct (al.map (·.1)) (al.map (·.2))

section
variable {Γ : Cx} {σ : St} {E : ExPost}

theorem al_look {h : Heap} {Z : Addr → Prop} {k : List Int} : ∀ {xs : List (List Int × Addr × Value)} {al : List (List Int × D)}, xs.map (·.1) = al.map (·.1) → Reps Γ.toWd h Z (al.map (·.2)) (xs.map (·.2.2)) →
    (∀ d, look al k = some d → ∃ p, atKey xs k = some p ∧ Rep Γ.toWd h Z d p.2) ∧ (look al k = none → atKey xs k = none)
  | [], [], _, _ => ⟨fun d e => by simp [look] at e, fun _ => rfl⟩
  | [], _ :: _, e, _ => by simp at e
  | _ :: _, [], e, _ => by simp at e
  | x :: xs, y :: al, e, r => by
    simp only [List.map_cons, List.cons.injEq] at e
    simp only [List.map_cons] at r
    unfold Reps at r; obtain ⟨v, ws, e2, r1, r2⟩ := r
    simp only [List.cons.injEq] at e2
    obtain ⟨e3, rfl⟩ := e2
    have ih := al_look (k := k) e.2 r2
    unfold look atKey at ih ⊢
    rw [List.find?_cons, List.find?_cons, e.1]
    by_cases q : y.1 = k
    · rw [decide_eq_true q]
      refine ⟨fun d hd => ⟨x.2, rfl, ?_⟩, fun hd => by simp at hd⟩
      simp only [Option.map_some, Option.some.injEq] at hd
      rw [e3, ← hd]; exact r1
    · rw [decide_eq_false q]; exact ih

theorem al_put {h : Heap} {Z : Addr → Prop} {k : List Int} {d : D} {v : Value} (rv : Rep Γ.toWd h Z d v) : ∀ {xs : List (List Int × Addr × Value)} {al : List (List Int × D)}, xs.map (·.1) = al.map (·.1) → Reps Γ.toWd h Z (al.map (·.2)) (xs.map (·.2.2)) →
    (xs.map (putAt k v)).map (·.1) = (al.map (fun x => if x.1 = k then (x.1, d) else x)).map (·.1) ∧ Reps Γ.toWd h Z ((al.map (fun x => if x.1 = k then (x.1, d) else x)).map (·.2)) ((xs.map (putAt k v)).map (·.2.2))
  | [], [], _, _ => ⟨rfl, rfl⟩
  | [], _ :: _, e, _ => by simp at e
  | _ :: _, [], e, _ => by simp at e
  | x :: xs, y :: al, e, r => by
    simp only [List.map_cons, List.cons.injEq] at e
    simp only [List.map_cons] at r
    unfold Reps at r; obtain ⟨u, ws, e2, r1, r2⟩ := r
    simp only [List.cons.injEq] at e2
    obtain ⟨e3, rfl⟩ := e2
    obtain ⟨i1, i2⟩ := al_put (k := k) rv e.2 r2
    simp only [List.map_cons]
    refine ⟨?_, _, _, rfl, ?_, i2⟩
    · rw [i1]; congr 1
      unfold putAt
      rw [e.1]
      by_cases q : y.1 = k
      · rw [if_pos q, if_pos q]
      · rw [if_neg q, if_neg q]; exact e.1
    · unfold putAt
      rw [e.1]
      by_cases q : y.1 = k
      · rw [if_pos q, if_pos q]; exact rv
      · rw [if_neg q, if_neg q, e3]; exact r1

theorem al_stored {h : Heap} {Z : Addr → Prop} {k : List Int} {d : D} {v : Value} {a : Addr} (rv : Rep Γ.toWd h Z d v) {xs : List (List Int × Addr × Value)} {al : List (List Int × D)} (e : xs.map (·.1) = al.map (·.1)) (r : Reps Γ.toWd h Z (al.map (·.2)) (xs.map (·.2.2)))
    (za : Z a) (zx : ∀ x ∈ xs, Z x.2.1) :
    (storedH xs k a v).map (·.1) = (put al k d).map (·.1) ∧ Reps Γ.toWd h Z ((put al k d).map (·.2)) ((storedH xs k a v).map (·.2.2)) ∧ ∀ x ∈ storedH xs k a v, Z x.2.1 := by
  have hl := al_look (k := k) e r
  unfold put
  cases q : look al k with
  | none =>
    rw [storedH_new (hl.2 q)]
    simp only [Option.isSome_none, Bool.false_eq_true, if_false, List.map_append, List.map_cons, List.map_nil]
    refine ⟨by rw [e], r.append (Reps.one rv), fun x hx => ?_⟩
    rcases List.mem_append.mp hx with hx | hx
    · exact zx x hx
    · rw [List.mem_singleton.mp hx]; exact za
  | some d' =>
    obtain ⟨p, hp, _⟩ := hl.1 d' q
    rw [storedH_old hp]
    simp only [Option.isSome_some, if_true]
    obtain ⟨i1, i2⟩ := al_put (k := k) rv e r
    refine ⟨i1, i2, fun x hx => ?_⟩
    obtain ⟨y, hy, rfl⟩ := List.mem_map.mp hx
    unfold putAt
    split <;> exact zx y hy

theorem sl_look {h : Heap} {Z : Addr → Prop} {k : Str} : ∀ {xs : List (Str × Value)} {al : List (Str × D)}, xs.map (·.1) = al.map (·.1) → Reps Γ.toWd h Z (al.map (·.2)) (xs.map (·.2)) →
    (∀ d, look al k = some d → ∃ p, valueAt xs k = some p ∧ Rep Γ.toWd h Z d p) ∧ (look al k = none → valueAt xs k = none)
  | [], [], _, _ => ⟨fun d e => by simp [look] at e, fun _ => rfl⟩
  | [], _ :: _, e, _ => by simp at e
  | _ :: _, [], e, _ => by simp at e
  | x :: xs, y :: al, e, r => by
    simp only [List.map_cons, List.cons.injEq] at e
    simp only [List.map_cons] at r
    unfold Reps at r; obtain ⟨v, ws, e2, r1, r2⟩ := r
    simp only [List.cons.injEq] at e2
    obtain ⟨e3, rfl⟩ := e2
    have ih := sl_look (k := k) e.2 r2
    unfold look valueAt at ih ⊢
    rw [List.find?_cons, List.find?_cons, e.1]
    by_cases q : y.1 = k
    · rw [decide_eq_true q]
      refine ⟨fun d hd => ⟨x.2, rfl, ?_⟩, fun hd => by simp at hd⟩
      simp only [Option.map_some, Option.some.injEq] at hd
      rw [e3, ← hd]; exact r1
    · rw [decide_eq_false q]; exact ih

theorem look_isSome {κ δ : Type} [DecidableEq κ] {al : List (κ × δ)} {k : κ} : (look al k).isSome = true ↔ k ∈ al.map (·.1) := by
  unfold look
  simp only [Option.isSome_map, List.find?_isSome, decide_eq_true_eq, List.mem_map]

/-- items by tuple keys -/
theorem ItemOk.tdct {al : List (List Int × D)} {k : List Int} {d : D} (hd : look al k = some d) : ItemOk Γ σ (dtd al) (dkey k) d := fun g s va vi a r ri => by
  obtain ⟨x, xs, rfl, zx, hs, hm, e, zk, rs⟩ := r
  obtain ⟨b, rfl, zb, hk⟩ := isTupleKey ri
  have hu := a.ok.un
  obtain ⟨p, hp, rp⟩ := (al_look (k := k) e rs).1 d hd
  obtain ⟨ob, e1, c1, _⟩ := dictOfH_plain hm
  refine ⟨⟨"dict", _, ⟨ob, e1, c1⟩, slot_dict_getitem.lookup⟩, wpAny_getItem_heap (tupleKind_room_in1 (by lia)) hk hm hp ?_⟩
  exact PR.here (RepV.of rp)
theorem ItemOk.sdct {al : List (Str × D)} {k : Str} {d : D} (hd : look al k = some d) : ItemOk Γ σ (dsd al) (.str k) d := fun g s va vi a r ri => by
  obtain ⟨x, xs, rfl, zx, hs, hm, e, rs⟩ := r
  obtain ⟨t, rfl⟩ := ri
  obtain ⟨p, hp, rp⟩ := (sl_look (k := k) e rs).1 d hd
  exact ⟨⟨"dict", _, hm.mapOf.typeIs, slot_dict_getitem.lookup⟩, wpAny_getItem_of (strKind_is _ _ _ _) hm.mapOf hp (PR.here (RepV.of rp))⟩

/-- dict.get with a default -/
theorem CallOk.get {al : List (List Int × D)} {k : List Int} {d : D} (hd : ∀ i, d ≠ .own i) : CallOk Γ (.builtin "dict.get") [dtd al, dkey k, d] ((look al k).getD d) := fun g σ s vs a r => by
  obtain ⟨v, ws, rfl, ⟨x, xs, rfl, zx, hs, hm, e, zk, rs⟩, v2, ws2, rfl, rk, v3, ws3, rfl, rd, e0⟩ := r
  cases e0
  obtain ⟨b, rfl, zb, hk⟩ := isTupleKey rk
  have hu := a.ok.un
  obtain ⟨ob, e1, c1, _⟩ := dictOfH_plain hm
  refine call_meetsIn F.slot_dict_get ⟨ob, e1, c1⟩ F.entry_dict_get (F.args_dict_get_3 _ _ _) (meetsH_dict_get_default _ x b hs v3) ⟨tupleKind_room_in1 (by lia), k, xs, hk, hm, ?_⟩
  obtain ⟨l1, l2⟩ := al_look (k := k) e rs
  cases q : look al k with
  | none =>
    rw [l2 q]; exact PR.here rd
  | some d' =>
    obtain ⟨p, hp, rp⟩ := l1 d' q
    rw [hp]; exact PR.here (RepV.of rp)

/-- membership in a dict with texts as keys -/
theorem CmpOk.notin_sdct {al : List (Str × D)} {k : Str} : CmpOk Γ .NotIn (.str k) (dsd al) (!(look al k).isSome) := fun g σ s va vb a ra rb => by
  obtain ⟨t, rfl⟩ := ra
  obtain ⟨x, xs, rfl, zx, hs, hm, e, rs⟩ := rb
  refine wpAny_notIn_of (strKind_is _ _ _ _) hs hm.mapOf ?_
  obtain ⟨l1, l2⟩ := sl_look (k := k) e rs
  have : (valueAt xs k).isSome = (look al k).isSome := by
    cases q : look al k with
    | none => rw [l2 q]; rfl
    | some d => obtain ⟨p, hp, _⟩ := l1 d q; rw [hp]; rfl
  rw [this]; exact PR.pure fun _ _ => rfl
theorem CmpOkS.notin_own {j : Nat} {al : List (Str × D)} {k : Str} (hj : σ.own[j]? = some (osd al)) : CmpOkS Γ σ .NotIn (.str k) (.own j) (!(look al k).isSome) := fun g s va vb a ra rb => by
  obtain ⟨t, rfl⟩ := ra
  obtain ⟨x, hx, rfl⟩ := rb
  obtain ⟨x', hx', ⟨xs, hs, hm, e, rs⟩, _⟩ := a.own j _ hj
  rw [hx] at hx'; cases hx'
  refine wpAny_notIn_of (strKind_is _ _ _ _) hs hm.mapOf ?_
  obtain ⟨l1, l2⟩ := sl_look (k := k) e rs
  have : (valueAt xs k).isSome = (look al k).isSome := by
    cases q : look al k with
    | none => rw [l2 q]; rfl
    | some d => obtain ⟨p, hp, _⟩ := l1 d q; rw [hp]; rfl
  rw [this]; exact PR.pure fun _ _ => rfl

/-- stores by an index or a key -/
def SetOk (Γ : Cx) (σ : St) (a i d : D) (Q : St → Prop) : Prop := ∀ g (s : Shared) va vi v, At Γ g σ s.heap → RepV Γ.toWd g s.heap a va → RepV Γ.toWd g s.heap i vi → RepV Γ.toWd g s.heap d v →
  wpAny (model Γ.prog Γ.w) Γ.A (setItem va vi v) (PostA Γ g s Q) NoE s
abbrev QItem3 (Γ : Cx) (d a : D) (Q : St → Prop) (k : D) (σ : St) : Prop := SetOk Γ σ a k d Q
abbrev QItem2 (Γ : Cx) (i : Expr) (d : D) (Q : St → Prop) (a : D) (σ : St) : Prop := WE Γ i (QItem3 Γ d a Q) σ
abbrev QItem1 (Γ : Cx) (o i : Expr) (Q : St → Prop) (d : D) (σ : St) : Prop := WE Γ o (QItem2 Γ i d Q) σ
theorem WS.setItem {o i value : Expr} {pos' pos : Pos} {Q : Out → St → Prop}
    (h : WE Γ value (QItem1 Γ o i (Q .next)) σ)
    (hs : swapsWith value (some (.Subscript o i pos')) pos.line Γ.env = pure false := by rfl) : WS Γ E (.Assign [.Subscript o i pos'] value pos) Q σ := fun g s a => by
  refine wpAny_Assign_Subscript (WE.use h a fun v g₁ σ₁ d h₁ tk₁ t₁ a₁ r₁ q₁ => WE.use q₁ a₁ fun va g₂ σ₂ da h₂ tk₂ t₂ a₂ r₂ q₂ => WE.use q₂ a₂ fun vi g₃ σ₃ di h₃ tk₃ t₃ a₃ r₃ q₃ => ?_) hs
  refine wpAny_mono (q₃ g₃ { s with heap := h₃, toks := tk₃ } va vi v a₃ (r₂.tr t₃) r₃ ((r₁.tr t₂).tr t₃)) (fun _ s' p => ?_) fun _ _ f => f.elim
  obtain ⟨g', σ', h', tk, rfl, t', a', q⟩ := p
  exact ⟨g', σ', .next, h', tk, rfl, ((t₁.trans t₂).trans t₃).trans t', a', rfl, q⟩

theorem setItem_plain {A : Around} {X : Value → Shared → Prop} {s : Shared} {l : Addr} {items : Array Value} {n : Nat} {k : Int} {t : Tok} {v : Value} {Q : Unit → Shared → Prop} (ho : s.heap.get? l = some { cls := .type "list", data := .seq items n })
    (h0 : 0 ≤ k) (hfit : k < 2 ^ 63) (hn : k < items.size)
    (hQ : ∀ h' n', h'.get? l = some { cls := .type "list", data := .seq (items.setIfInBounds k.toNat v) n' } → Heap.SameBut l s.heap h' → Q () { s with heap := h' }) :
    wpAny (model Γ.prog Γ.w) A (setItem (.ref l) (.int k t) v) Q X s := by
  have hl : s.heap.IsList l items := ⟨_, ho, rfl, n, rfl⟩
  unfold setItem
  try with_reducible refine wpAny_holding ?_
  first | refine wpAny_bind (wpAny_pure ?_) | skip
  refine wpAny_bind (wpAny_sequenceKey hl.typeIs (by decide) ?_)
  refine wpAny_bind (wpAny_callSpecial?_slot (name := Str.ofString "__setitem__") hl.typeIs slot_list_setitem
    (wpAny_call_entry slot_list_setitem hl.typeIs entry_list_setitem ?_ (args_list_setitem _ _ _)))
  show wpAny _ _ (Builtin.List.listSubscript? (.int k t) >>= _) _ _ s
  refine wpAny_bind (wpAny_listSubscript_int (fitsIndex_of h0 hfit) ?_)
  clear hfit
  obtain ⟨j, rfl⟩ := Int.eq_ofNat_of_zero_le h0
  have hj : j < items.size := by lia
  have hx' : items[j]? = some items[j] := Array.getElem?_eq_getElem hj
  show wpAny _ _ ((seqItemAt l j >>= fun r => pure (r.map (j, ·))) >>= _) _ _ s
  refine wpAny_bind (wpAny_bind (wpAny_seqItemAt ho rfl (wpAny_pure ?_)))
  rw [hx']
  show wpAny _ _ (setSeqItemAt l j v >>= _) _ _ s
  have hfin := Heap.get?_update_self (Obj.mapSeq (·.setIfInBounds j v)) ho rfl
  refine wpAny_bind (wpAny_setSeqItemAt ho rfl ?_)
  first
    | exact wpAny_bind (wpAny_pure (wpAny_pure ⟨.none, rfl, wpAny_pure (hQ _ _ hfin (Heap.SameBut.update ..))⟩))
    | exact wpAny_pure ⟨.none, rfl, wpAny_pure (hQ _ _ hfin (Heap.SameBut.update ..))⟩

theorem SetOk.lst {j : Nat} {ds : List D} {i : Int} {d : D} {Q : St → Prop} (hj : σ.own[j]? = some (.lst ds)) (h0 : 0 ≤ i) (hfit : i < 2 ^ 63) (hn : i.toNat < ds.length) (hd : ∀ i, d ≠ .own i)
    (q : Q { σ with own := σ.own.set j (.lst (ds.set i.toNat d)) }) : SetOk Γ σ (.own j) (.int i) d Q := fun g s va vi v a ra ri rv => by
  obtain ⟨x, hx, rfl⟩ := ra
  obtain ⟨t, rfl⟩ := ri
  obtain ⟨x', hx', ⟨us, hp, rs⟩, nz⟩ := a.own j _ hj
  rw [hx] at hx'; cases hx'
  have hlen := rs.length
  obtain ⟨n, ho⟩ := hp
  refine setItem_plain (Γ := Γ) ho h0 hfit (by rw [List.size_toArray]; lia) (fun h' n' e' hs' => ?_)
  have hlive : (h'.get? x).isSome = true := live_of e'
  have kz : ∀ b o, g.z b → s.heap.get? b = some o → h'.get? b = some o := fun b o zb e => (hs'.2 b (fun q => nz nofun (q ▸ zb))).trans e
  refine ⟨g, _, h', s.toks, rfl, Tr.updOwn a hj nofun hx (fun b o hb e => (hs'.2 b hb).trans e) hlive, At.updOwn (o' := .lst (ds.set i.toNat d)) a hj nofun hx (fun b o hb e => (hs'.2 b hb).trans e) hlive ⟨us.set i.toNat v, ⟨n', ?_⟩, ?_⟩, q⟩
  · rw [e']; simp
  · exact Reps.set _ (Reps.mono (fun _ z => z) kz _ rs) (Rep.mono (fun _ z => z) kz _ (rv.rep hd))

theorem SetOk.tdct {j : Nat} {al : List (List Int × D)} {k : List Int} {d : D} {Q : St → Prop} (hj : σ.own[j]? = some (otd al)) (hd : ∀ i, d ≠ .own i) (hz : al.length ≤ sizeLine)
    (q : Q { σ with own := σ.own.set j (otd (put al k d)) }) : SetOk Γ σ (.own j) (dkey k) d Q := fun g s va vi v a ra ri rv => by
  obtain ⟨x, hx, rfl⟩ := ra
  obtain ⟨b, rfl, zb, hk⟩ := isTupleKey ri
  obtain ⟨x', hx', ⟨xs, hs, hm, e, zk, rs⟩, nz⟩ := a.own j _ hj
  rw [hx] at hx'; cases hx'
  have hu := a.ok.un
  have hlen : xs.length = al.length := by have := congrArg List.length e; simpa using this
  refine wpAny_setItem_heap (tupleKind_room_in1 (by lia)) hk hm (fun h' hm' hs' => ?_) (by lia)
  have hlive : (h'.get? x).isSome = true := by obtain ⟨o, _, _, e, _⟩ := hm'; exact live_of e
  have kz : ∀ b o, g.z b → s.heap.get? b = some o → h'.get? b = some o := fun b o zb e => (hs'.2 b (fun q => nz nofun (q ▸ zb))).trans e
  obtain ⟨i1, i2, i3⟩ := al_stored (k := k) (a := b) (Rep.mono (fun _ z => z) kz _ (rv.rep hd)) e (Reps.mono (fun _ z => z) kz _ rs) zb zk
  exact ⟨g, _, h', _, rfl, Tr.updOwn a hj nofun hx (fun b o hb e => (hs'.2 b hb).trans e) hlive, At.updOwn (o' := otd (put al k d)) a hj nofun hx (fun b o hb e => (hs'.2 b hb).trans e) hlive ⟨_, hs, hm', i1, i3, i2⟩, q⟩
theorem sl_put {h : Heap} {Z : Addr → Prop} {k : Str} {d : D} {v : Value} (rv : Rep Γ.toWd h Z d v) : ∀ {xs : List (Str × Value)} {al : List (Str × D)}, xs.map (·.1) = al.map (·.1) → Reps Γ.toWd h Z (al.map (·.2)) (xs.map (·.2)) →
    (xs.map (fun kv => if kv.1 = k then (kv.1, v) else kv)).map (·.1) = (al.map (fun x => if x.1 = k then (x.1, d) else x)).map (·.1) ∧ Reps Γ.toWd h Z ((al.map (fun x => if x.1 = k then (x.1, d) else x)).map (·.2)) ((xs.map (fun kv => if kv.1 = k then (kv.1, v) else kv)).map (·.2))
  | [], [], _, _ => ⟨rfl, rfl⟩
  | [], _ :: _, e, _ => by simp at e
  | _ :: _, [], e, _ => by simp at e
  | x :: xs, y :: al, e, r => by
    simp only [List.map_cons, List.cons.injEq] at e
    simp only [List.map_cons] at r
    unfold Reps at r; obtain ⟨u, ws, e2, r1, r2⟩ := r
    simp only [List.cons.injEq] at e2
    obtain ⟨e3, rfl⟩ := e2
    obtain ⟨i1, i2⟩ := sl_put (k := k) rv e.2 r2
    simp only [List.map_cons]
    refine ⟨?_, _, _, rfl, ?_, i2⟩
    · rw [i1]; congr 1
      rw [e.1]
      by_cases q : y.1 = k
      · rw [if_pos q, if_pos q]
      · rw [if_neg q, if_neg q]; exact e.1
    · rw [e.1]
      by_cases q : y.1 = k
      · rw [if_pos q, if_pos q]; exact rv
      · rw [if_neg q, if_neg q, e3]; exact r1
theorem sl_stored {h : Heap} {Z : Addr → Prop} {k : Str} {d : D} {v : Value} (rv : Rep Γ.toWd h Z d v) {xs : List (Str × Value)} {al : List (Str × D)} (e : xs.map (·.1) = al.map (·.1)) (r : Reps Γ.toWd h Z (al.map (·.2)) (xs.map (·.2))) :
    (stored xs k v).map (·.1) = (put al k d).map (·.1) ∧ Reps Γ.toWd h Z ((put al k d).map (·.2)) ((stored xs k v).map (·.2)) := by
  have hany : (xs.any fun kv => decide (kv.1 = k)) = (look al k).isSome := by
    rw [Bool.eq_iff_iff, look_isSome, ← e]
    simp only [List.any_eq_true, decide_eq_true_eq, List.mem_map]
  unfold stored put
  rw [hany]
  cases q : (look al k).isSome with
  | false =>
    simp only [Bool.false_eq_true, if_false, List.map_append, List.map_cons, List.map_nil]
    exact ⟨by rw [e], r.append (Reps.one rv)⟩
  | true =>
    simp only [if_true]
    exact sl_put (k := k) rv e r
theorem SetOk.sdct {j : Nat} {al : List (Str × D)} {k : Str} {d : D} {Q : St → Prop} (hj : σ.own[j]? = some (osd al)) (hd : ∀ i, d ≠ .own i) (hz : al.length ≤ sizeLine)
    (q : Q { σ with own := σ.own.set j (osd (put al k d)) }) : SetOk Γ σ (.own j) (.str k) d Q := fun g s va vi v a ra ri rv => by
  obtain ⟨x, hx, rfl⟩ := ra
  obtain ⟨t, rfl⟩ := ri
  obtain ⟨x', hx', ⟨xs, hs, hm, e, rs⟩, nz⟩ := a.own j _ hj
  rw [hx] at hx'; cases hx'
  have hlen : xs.length = al.length := by have := congrArg List.length e; simpa using this
  refine wpAny_setItem_pairs (strKind_is _ _ _ _) hm (fun h' hm' hs' => ?_) (by lia)
  have hlive : (h'.get? x).isSome = true := by obtain ⟨o, _, _, e, _⟩ := hm'; exact live_of e
  have kz : ∀ b o, g.z b → s.heap.get? b = some o → h'.get? b = some o := fun b o zb e => (hs'.2 b (fun q => nz nofun (q ▸ zb))).trans e
  obtain ⟨i1, i2⟩ := sl_stored (k := k) (Rep.mono (fun _ z => z) kz _ (rv.rep hd)) e (Reps.mono (fun _ z => z) kz _ rs)
  exact ⟨g, _, h', _, rfl, Tr.updOwn a hj nofun hx (fun b o hb e => (hs'.2 b hb).trans e) hlive, At.updOwn (o' := osd (put al k d)) a hj nofun hx (fun b o hb e => (hs'.2 b hb).trans e) hlive ⟨_, hs, hm', i1, i2⟩, q⟩
end
end Mine

namespace Mine

section
variable {prog : Program} {w : World} {K : Type} [DecidableEq K] {knd : HeapKind prog w K} {A : Around} {E : Value → Shared → Prop} {s : Shared}

theorem entry_get {es : Array DictEntry} {xs : List (K × Addr × Value)} (he : es.toList = xs.map (entryOfKey knd)) {i : Nat} (h : i < es.size) : ∃ x, xs[i]? = some x ∧ es[i] = entryOfKey knd x := by
  have hs := size_of_entries he
  have h' : i < xs.length := by lia
  refine ⟨xs[i], List.getElem?_eq_getElem h', ?_⟩
  have e := entry_at he i
  rw [Array.getElem?_eq_getElem h, List.getElem?_eq_getElem h'] at e
  exact Option.some.inj e

theorem samePairsH {nm : String} {a b : Addr} {xs ys : List (K × Addr × Value)} {Q : Bool → Shared → Prop} (hu : knd.room A) (ha : (a == sysModules) = false) (hb : (b == sysModules) = false) (da : s.heap.DictOfH knd a xs) (db : s.heap.DictOfH knd b ys)
    (hl : xs.length = ys.length) (hits : ∀ x ∈ xs, ∃ p, atKey ys x.1 = some p ∧ SeqAt.EqAt A s x.2.2 p.2 true) (h : Q true s) : wpAny (model prog w) A (Builtin.Dict.samePairs nm a b) Q E s := by
  obtain ⟨oa, es, ep, hoa, _, hda, hea, hka, hna⟩ := da
  obtain ⟨ob, es', ep', hob, _, hdb, heb, hkb, hnb⟩ := db
  have hla := size_of_entries hea
  have hlb := size_of_entries heb
  unfold Builtin.Dict.samePairs Builtin.Dict.showsAll
  rw [if_neg (show ¬ (a == sysModules) = true by rw [ha]; exact Bool.false_ne_true), if_neg (show ¬ (b == sysModules) = true by rw [hb]; exact Bool.false_ne_true)]
  refine wpAny_bind (wpAny_pure (wpAny_bind (wpAny_pure ?_)))
  refine wpAny_bind (wpAny_dictEntries hoa hda ?_)
  dsimp only
  refine wpAny_bind (wpAny_dictEntries hob hdb ?_)
  have hsz : es.size = es'.size := by lia
  rw [if_neg (by rw [hsz]; simp)]
  refine wpAny_bind (wpAny_dictEpoch hoa hda ?_)
  refine wpAny_bind ?_
  rw [Std.Legacy.Range.forIn_eq_forIn_range']
  simp only [Std.Legacy.Range.size, Nat.sub_zero, Nat.add_sub_cancel, Nat.div_one]
  refine wpAny_forIn_list _ (fun rest q s' => s' = s ∧ q = (none, ()) ∧ ∃ i, rest = List.range' i (es.size - i) ∧ i ≤ es.size) _ ?_ ?_ _ _ ⟨rfl, rfl, 0, by simp, Nat.zero_le _⟩
  · rintro x rest q s' ⟨rfl, rfl, i, hr, hi⟩
    have hlt : i < es.size := by
      rcases Nat.lt_or_ge i es.size with h | h
      · exact h
      · rw [Nat.sub_eq_zero_of_le h] at hr; simp at hr
    obtain ⟨rfl, hrest⟩ : x = i ∧ rest = List.range' (i + 1) (es.size - (i + 1)) := by
      have e : es.size - i = (es.size - (i + 1)) + 1 := by lia
      rw [e, List.range'_succ] at hr
      injection hr with h1 h2
      exact ⟨h1, h2⟩
    refine wpAny_bind (wpAny_dictEntries hoa hda ?_)
    rw [Array.getElem?_eq_getElem hlt]
    obtain ⟨z, hz, hez⟩ := entry_get hea hlt
    have hzm := List.mem_of_getElem? hz
    obtain ⟨p, hp, hq⟩ := hits z hzm
    show wpAny _ _ (holding [es[x].key, es[x].val] _ >>= _) _ _ _
    rw [hez]
    refine wpAny_bind (wpAny_holding (wpAny_bind (wpAny_dictFind_heap hu (hka z hzm) hob hdb heb hkb hnb (fun hn => ?_) (fun j p' hj => ?_))))
    · rw [atKey_none_of_get hn] at hp; exact nomatch hp
    · rw [atKey_of_get hnb hj] at hp; cases hp
      refine wpAny_bind (wpAny_dictEntries hob hdb ?_)
      rw [entry_at heb j, hj]
      refine wpAny_holding (hq prog w _ _ ?_)
      show wpAny _ _ (if (!true) = true then _ else _) _ _ _
      rw [if_neg (by decide)]
      refine wpAny_bind (wpAny_dictEpoch hoa hda ?_)
      rw [if_neg (by simp)]
      exact wpAny_pure ⟨rfl, rfl, x + 1, hrest, hlt⟩
  · rintro q s' ⟨rfl, rfl, _⟩
    exact wpAny_pure h

theorem dict_neH {a b : Addr} {xs ys : List (K × Addr × Value)} {Q : Value → Shared → Prop} (hu : knd.room A.in1) (hr : A.units < cLine) (ha : (a == sysModules) = false) (hb : (b == sysModules) = false) (da : s.heap.DictOfH knd a xs) (db : s.heap.DictOfH knd b ys)
    (hl : xs.length = ys.length) (hits : ∀ x ∈ xs, ∃ p, atKey ys x.1 = some p ∧ SeqAt.EqAt A.in1 s x.2.2 p.2 true) (h : Q (.bool false) s) : wpAny (model prog w) A (compareOp .NotEq (.ref a) (.ref b)) Q E s := by
  refine wpAny_richCompare_same_room (op := .NotEq) da.typeIs db.typeIs PySem.F.slot_dict_ne (wpAny_call_entry PySem.F.slot_dict_ne da.typeIs PySem.F.entry_dict_ne ?_ (PySem.F.args_dict_ne_2 _ _)) hr
  show wpAny _ _ (Builtin.Dict.dictSlotArgs "__ne__" ⟨[.ref a, .ref b], []⟩ >>= _) _ _ s
  refine wpAny_bind ?_
  unfold Builtin.Dict.dictSlotArgs
  refine wpAny_bind (wpAny_notOrdered_dict da.typeIs ?_)
  show wpAny _ _ (pure (Value.ref a, Value.ref b)) _ _ s
  refine wpAny_pure ?_
  refine wpAny_bind (wpAny_isInstance (T := "dict") db.typeIs PySem.F.sub_dict_dict ?_)
  simp only [Bool.not_true, Bool.false_eq_true, if_false]
  refine wpAny_bind (wpAny_pure (wpAny_bind (wpAny_pure ?_)))
  refine wpAny_bind (samePairsH hu ha hb da db hl hits ?_)
  exact wpAny_pure ⟨_, rfl, (fun x => nomatch x), h⟩

/-- dict(d): no two keys of one hash -/
theorem entriesForEmptyH {id : String} {d : Addr} {o : Obj} {es ep} {xs : List (K × Addr × Value)} {Q : Array DictEntry → Shared → Prop} (ho : s.heap.get? d = some o) (hd : o.data = .dict es ep) (he : es.toList = xs.map (entryOfKey knd))
    (hq : ∀ x ∈ xs, s.TypeIs (.ref x.2.1) "tuple") (hh : ∀ e ∈ es, (es.filter (·.hash == e.hash)).size ≤ 1) (h : Q es s) : wpAny (model prog w) A (Builtin.Dict.entriesForEmpty id d) Q E s := by
  unfold Builtin.Dict.entriesForEmpty
  refine wpAny_bind (wpAny_dictEntries ho hd ?_)
  refine wpAny_bind ?_
  rw [← Array.forIn_toList]
  refine wpAny_forIn_list _ (fun rest q s' => s' = s ∧ ∀ e ∈ rest, e ∈ es) _ ?_ ?_ _ _ ⟨rfl, fun e h => Array.mem_toList_iff.mp h⟩
  · rintro e rest q s' ⟨rfl, hm⟩
    have hes := hm e List.mem_cons_self
    obtain ⟨x, hx, rfl⟩ : ∃ x ∈ xs, e = entryOfKey knd x := by
      have : e ∈ xs.map (entryOfKey knd) := he ▸ Array.mem_toList_iff.mpr hes
      obtain ⟨x, hx, rfl⟩ := List.mem_map.mp this
      exact ⟨x, hx, rfl⟩
    have h1 := hh _ hes
    show wpAny _ _ (Builtin.Dict.quietEq (.ref x.2.1) >>= _) _ _ _
    unfold Builtin.Dict.quietEq
    refine wpAny_bind (wpAny_bind (wpAny_specialOf (hq x hx) F.slot_tuple_eq.lookup (wpAny_pure ?_)))
    have hb : (some (Value.builtin "tuple.__eq__") == some (Value.builtin "object.__eq__")) = false := by decide
    rw [hb]
    simp only [Bool.not_false, if_true]
    rw [if_neg (by lia)]
    exact wpAny_pure ⟨rfl, fun e h => hm e (List.mem_cons_of_mem _ h)⟩
  · rintro q s' ⟨rfl, _⟩
    exact wpAny_pure h

theorem mergeDictH {nm : String} {d o : Addr} {xs : List (K × Addr × Value)} {Q : Unit → Shared → Prop} (hdo : d ≠ o) (hoS : (o == sysModules) = false)
    (hd : s.heap.get? d = some { cls := .type "dict", data := .dict #[] }) (hm : s.heap.DictOfH knd o xs) (hq : ∀ x ∈ xs, s.TypeIs (.ref x.2.1) "tuple") (hh : ∀ x ∈ xs, ∀ y ∈ xs, knd.hash x.1 = knd.hash y.1 → x.1 = y.1) (hsz : xs.length ≤ sizeLine)
    (hQ : ∀ h', h'.DictOfH knd d xs → Heap.SameBut d s.heap h' → Q () { s with heap := h' }) : wpAny (model prog w) A (Builtin.Dict.mergeDict nm d o) Q E s := by
  obtain ⟨oo, es, ep, hoo, hco, hdo', he, hk, hn⟩ := id hm
  have hlen := size_of_entries he
  unfold Builtin.Dict.mergeDict
  rw [if_neg (by simpa using hdo)]
  unfold Builtin.Dict.showsAll
  rw [if_neg (by rw [hoS]; exact Bool.false_ne_true)]
  refine wpAny_bind (wpAny_pure ?_)
  refine wpAny_bind (wpAny_dictEntries hoo hdo' ?_)
  cases xs with
  | nil =>
    have hes : es = #[] := by
      apply Array.toList_inj.mp; rw [he]; rfl
    subst hes
    have hfew : (decide ((#[] : Array DictEntry).size ≤ 8) && (#[] : Array DictEntry).all fun e => (keyPart e.key).isSome) = true := by simp
    dsimp only
    rw [hfew]
    simp only [Bool.not_true, Bool.false_eq_true, if_false]
    refine wpAny_bind (wpAny_dictEpoch hoo hdo' ?_)
    refine wpAny_bind (wpAny_dictEntries hoo hdo' ?_)
    rw [Std.Legacy.Range.forIn_eq_forIn_range']
    simp only [Std.Legacy.Range.size, Nat.sub_zero, Nat.add_sub_cancel, Nat.div_one]
    have hr : List.range' 0 (#[] : Array DictEntry).size 1 = [] := rfl
    rw [hr, List.forIn_nil]
    refine wpAny_bind (wpAny_pure ?_)
    exact wpAny_pure (hQ _ ⟨_, #[], 0, hd, ⟨rfl, rfl, rfl⟩, rfl, rfl, (fun _ hx => nomatch hx), List.nodup_nil⟩ (Heap.SameBut.refl _ _))
  | cons x xs =>
    have hpos : 0 < es.size := by rw [hlen]; simp
    have hfew : (decide (es.size ≤ 8) && es.all fun e => (keyPart e.key).isSome) = false := by
      have : (es.all fun e => (keyPart e.key).isSome) = false := by
        rw [← Array.all_toList, he]
        rfl
      rw [this, Bool.and_false]
    dsimp only
    rw [hfew]
    simp only [Bool.not_false, if_true]
    refine wpAny_bind (wpAny_dictEntries hd rfl ?_)
    have hemp : (#[] : Array DictEntry).isEmpty = true := rfl
    rw [hemp]
    simp only [if_true]
    refine wpAny_bind (entriesForEmptyH hoo hdo' he hq (fun e hes => ?_) ?_)
    · obtain ⟨y, hy, rfl⟩ : ∃ y ∈ x :: xs, e = entryOfKey knd y := by
        have : e ∈ (x :: xs).map (entryOfKey knd) := he ▸ Array.mem_toList_iff.mpr hes
        obtain ⟨x, hx, rfl⟩ := List.mem_map.mp this
        exact ⟨x, hx, rfl⟩
      have e1 : (es.filter fun z => z.hash == (entryOfKey knd y).hash).size = ((x :: xs).filter fun z => knd.hash z.1 == knd.hash y.1).length := by
        rw [← Array.length_toList, Array.toList_filter, he, List.filter_map, List.length_map]
        rfl
      rw [e1]
      have e2 : ((x :: xs).filter fun z => knd.hash z.1 == knd.hash y.1) = (x :: xs).filter fun z => decide (z.1 = y.1) := by
        refine List.filter_congr fun z hz => ?_
        by_cases q : z.1 = y.1
        · simp [q]
        · have : ¬ knd.hash z.1 = knd.hash y.1 := fun e => q (hh z hz y hy e)
          simp [q, this]
      rw [e2]
      clear e1 e2 hes hy hpos hfew hh hq hlen hk he hm hsz hQ
      generalize x :: xs = l at hn
      induction l with
      | nil => simp
      | cons z l ih =>
        rw [List.map_cons, List.nodup_cons] at hn
        rw [List.filter_cons]
        by_cases q : z.1 = y.1
        · rw [decide_eq_true q]
          simp only [if_true, List.length_cons]
          have : l.filter (fun z => decide (z.1 = y.1)) = [] := by
            rw [List.filter_eq_nil_iff]
            intro u hu e
            have e := of_decide_eq_true e
            exact hn.1 (q ▸ e ▸ List.mem_map.mpr ⟨u, hu, rfl⟩)
          rw [this]; simp
        · rw [decide_eq_false q]
          simpa using ih hn.2
    · have hne : es.isEmpty = false := by rw [Array.isEmpty_eq_false_iff]; exact fun e => by rw [e] at hpos; simp at hpos
      rw [hne]
      simp only [Bool.not_false, if_true]
      refine wpAny_bind (wpAny_updateDictKeysTo hd rfl ?_ (by simp only [List.length_cons] at hsz hlen; lia))
      refine wpAny_pure (hQ _ ⟨_, es, 1, Heap.get?_update_self _ hd (Obj.isFreed_of_dict (Obj.data_mapDictKeys rfl _)), ⟨rfl, rfl, rfl⟩, Obj.data_mapDictKeys rfl _, he, fun z hz => ?_, hn⟩ (Heap.SameBut.update ..))
      exact knd.keeps (hk z hz) hd rfl (Heap.SameBut.update ..)
end
end Mine

namespace Mine

/-- a dict as it lies -/
def RawDict (h : Heap) (a : Addr) (es : Array DictEntry) (ep : Nat) : Prop := ∃ o, h.get? a = some o ∧ o.cls = .type "dict" ∧ o.data = .dict es ep
theorem RawDict.at {h h' : Heap} {a : Addr} {es : Array DictEntry} {ep : Nat} (x : RawDict h a es ep) (k : ∀ o, h.get? a = some o → h'.get? a = some o) : RawDict h' a es ep := by obtain ⟨o, e, r⟩ := x; exact ⟨o, k o e, r⟩
theorem RawDict.typeIs {s : Shared} {a : Addr} {es : Array DictEntry} {ep : Nat} (x : RawDict s.heap a es ep) : s.TypeIs (.ref a) "dict" := by obtain ⟨o, e, c, _⟩ := x; exact ⟨o, e, c⟩
theorem RawDict.lt {h : Heap} {a : Addr} {es : Array DictEntry} {ep : Nat} (x : RawDict h a es ep) : a < h.objs.size := by obtain ⟨o, e, _⟩ := x; exact Heap.lt_size e

section
variable {prog : Program} {w : World} {A : Around} {E : Value → Shared → Prop} {s : Shared} {d it : Addr} {es : Array DictEntry} {ep i : Nat}

theorem raw_iter {Q : Value → Shared → Prop} (hd : (d == sysModules) = false) (hm : RawDict s.heap d es ep)
    (hQ : Q (.ref s.heap.objs.size) { s with heap := s.heap.push { cls := .type "dict_keyiterator", data := .fields #[.ref d, .int 0 0, .int es.size 0, .int ep 0] } }) :
    wpAny (model prog w) A (pyIter (.ref d)) Q E s := by
  obtain ⟨o, ho, hc, hdat⟩ := id hm
  have hT := hm.typeIs
  refine wpAny_pyIter_slot hT F.slot_dict_iter (wpAny_call_entry F.slot_dict_iter hT F.entry_dict_iter ?_ (F.args_dict_iter_1 _))
  unfold Builtin.«dict.__iter__»
  refine wpAny_bind ?_
  unfold Builtin.Dict.dictSlotNone
  refine wpAny_bind (wpAny_notOrdered_dict hT ?_)
  show wpAny _ _ (pure (Value.ref d)) _ _ s
  refine wpAny_pure ?_
  show wpAny _ _ (Builtin.Dict.showsAll d >>= _) _ _ s
  unfold Builtin.Dict.showsAll
  rw [if_neg (by rw [hd]; exact Bool.false_ne_true)]
  refine wpAny_bind (wpAny_pure ?_)
  refine wpAny_bind (wpAny_dictEntries ho hdat ?_)
  refine wpAny_bind (wpAny_dictEpoch ho hdat ?_)
  refine wpAny_bind (wpAny_newObj_type (wpAny_pure ⟨_, rfl, "dict_keyiterator", _, ⟨_, Heap.get?_push_size _ rfl, rfl⟩, F.slot_dict_keyiterator_next.lookup, ?_⟩))
  simpa [rawInt] using hQ

theorem raw_item {Q : Option Value → Shared → Prop} (hit : s.heap.IsKeyIter it d i es.size ep) (hm : RawDict s.heap d es ep) (hlt' : i < es.size)
    (hQ : ∀ h', h'.IsKeyIter it d (i + 1) es.size ep → Heap.SameBut it s.heap h' → Q (some es[i].key) { s with heap := h' }) :
    wpAny (model prog w) A (pyNext (.ref it)) Q E s := by
  obtain ⟨o, ho, hc, hd⟩ := id hit
  obtain ⟨od, hod, hcd, hdd⟩ := id hm
  unfold pyNext
  refine wpAny_bind (wpAny_attempt (wpAny_callSpecial?_slot (name := Str.ofString "__next__") hit.typeIs F.slot_dict_keyiterator_next
    (wpAny_call_entry F.slot_dict_keyiterator_next hit.typeIs F.entry_dict_keyiterator_next ?_ (F.args_dict_keyiterator_next_1 _))))
  refine wpAny_bind (wpAny_pure ?_)
  refine wpAny_bind ?_
  refine wpAny_bind ?_
  first | refine wpAny_bind (wpAny_typeNameOfWhole_keyiter hit.typeIs (wpAny_pure ?_)) | refine wpAny_bind (wpAny_typeNameOf_keyiter hit.typeIs (wpAny_pure ?_))
  refine wpAny_bind (wpAny_fieldsOf ho hd ?_)
  have hown : Builtin.Dict_items.ownsTuple "dict_keyiterator" = false := by decide
  simp only [hown, Bool.false_eq_true, if_false]
  show wpAny _ _ (if (Value.ref d == Value.none) = true then _ else _) _ _ s
  rw [if_neg (show ¬ ((Value.ref d == Value.none) = true) from Bool.false_ne_true)]
  refine wpAny_bind (wpAny_pure ?_)
  refine wpAny_bind (wpAny_dictEntries hod hdd ?_)
  rw [if_neg (by simp)]
  refine wpAny_bind (wpAny_pure ?_)
  refine wpAny_bind (wpAny_dictEpoch hod hdd ?_)
  rw [if_neg (by simp)]
  refine wpAny_pure ?_
  simp only [show ¬ ((i : Int) < 0) from by lia, if_false, Int.toNat_natCast, Array.getElem?_eq_getElem hlt']
  refine wpAny_bind ?_
  first | refine wpAny_bind (wpAny_typeNameOfWhole_keyiter hit.typeIs (wpAny_pure ?_)) | refine wpAny_bind (wpAny_typeNameOf_keyiter hit.typeIs (wpAny_pure ?_))
  refine wpAny_bind (wpAny_isOneOf_keyiter hit.typeIs ?_)
  show wpAny _ _ (setField (.ref it) 1 (rawInt ((i : Int) + 1)) >>= _) _ _ s
  refine wpAny_bind (wpAny_setField ho hd (by simp) ?_)
  have hit' : (s.heap.update it (Obj.mapFields (·.setIfInBounds 1 (rawInt ((i : Int) + 1))))).IsKeyIter it d (i + 1) es.size ep :=
    ⟨_, Heap.get?_update_self _ ho (Obj.isFreed_of_fields (Obj.data_mapFields hd _)), (Obj.cls_mapFields ..).trans hc, by rw [Obj.data_mapFields hd]; simp [rawInt]⟩
  refine wpAny_bind (wpAny_holding ?_)
  refine wpAny_bind (wpAny_isOneOf_keyiter (s := { s with heap := s.heap.update it (Obj.mapFields (·.setIfInBounds 1 (rawInt ((i : Int) + 1)))) }) hit'.typeIs ?_)
  show wpAny _ _ (pure es[i].key) _ _ _
  exact wpAny_pure (wpAny_pure ⟨_, rfl, wpAny_pure (hQ _ hit' (Heap.SameBut.update ..))⟩)

theorem raw_end {Q : Option Value → Shared → Prop} (hh : A.handled = none) (hit : s.heap.IsKeyIter it d i es.size ep) (hm : RawDict s.heap d es ep) (hge : es.size ≤ i)
    (hQ : ∀ h', Heap.ExtBut it s.heap h' → Q none { s with heap := h' }) : wpAny (model prog w) A (pyNext (.ref it)) Q E s := by
  obtain ⟨o, ho, hc, hd⟩ := id hit
  obtain ⟨od, hod, hcd, hdd⟩ := id hm
  unfold pyNext
  refine wpAny_bind (wpAny_attempt (wpAny_callSpecial?_slot (name := Str.ofString "__next__") hit.typeIs F.slot_dict_keyiterator_next
    (wpAny_call_entry F.slot_dict_keyiterator_next hit.typeIs F.entry_dict_keyiterator_next ?_ (F.args_dict_keyiterator_next_1 _))))
  refine wpAny_bind (wpAny_pure ?_)
  refine wpAny_bind ?_
  refine wpAny_bind ?_
  first | refine wpAny_bind (wpAny_typeNameOfWhole_keyiter hit.typeIs (wpAny_pure ?_)) | refine wpAny_bind (wpAny_typeNameOf_keyiter hit.typeIs (wpAny_pure ?_))
  refine wpAny_bind (wpAny_fieldsOf ho hd ?_)
  have hown : Builtin.Dict_items.ownsTuple "dict_keyiterator" = false := by decide
  simp only [hown, Bool.false_eq_true, if_false]
  show wpAny _ _ (if (Value.ref d == Value.none) = true then _ else _) _ _ s
  rw [if_neg (show ¬ ((Value.ref d == Value.none) = true) from Bool.false_ne_true)]
  refine wpAny_bind (wpAny_pure ?_)
  refine wpAny_bind (wpAny_dictEntries hod hdd ?_)
  rw [if_neg (by simp)]
  refine wpAny_bind (wpAny_pure ?_)
  refine wpAny_bind (wpAny_dictEpoch hod hdd ?_)
  rw [if_neg (by simp)]
  refine wpAny_pure ?_
  simp only [show ¬ ((i : Int) < 0) from by lia, if_false, Int.toNat_natCast, Array.getElem?_eq_none hge]
  refine wpAny_bind ?_
  first | refine wpAny_bind (wpAny_typeNameOfWhole_keyiter hit.typeIs (wpAny_pure ?_)) | refine wpAny_bind (wpAny_typeNameOf_keyiter hit.typeIs (wpAny_pure ?_))
  show wpAny _ _ (setField (.ref it) 0 .none >>= _) _ _ s
  refine wpAny_bind (wpAny_setField ho hd (by simp) ?_)
  show wpAny _ _ (newExc (.type "StopIteration") [] >>= _) _ _ _
  refine wpAny_bind ?_
  simp only [newExc, newTuple]
  refine wpAny_bind (wpAny_newObj_type ?_ (by size_fits))
  refine wpAny_bind (m := firstArgMember _ _) (wpAny_of_eq (a := Value.none) (by first | rfl | (simp only [firstArgMember]; rfl)) ?_)
  refine wpAny_newObj_type ?_ (by size_fits)
  simp only [raiseNew]
  refine wpAny_bind (wpAny_handled ?_)
  rw [show A.in1.handled = none from hh]
  refine wpAny_bind (wpAny_pure (wpAny_throw ?_))
  refine wpAny_bind (wpAny_isInstance (T := "StopIteration") (b := true) ⟨_, Heap.get?_push_size _ rfl, rfl⟩ isSubtype_stop ?_)
  exact wpAny_pure (hQ _ (((Heap.SameBut.update ..).extBut.push _).push _))

theorem raw_walks (hh : A.handled = none) (I d : Addr) (hne : d ≠ I) (es : Array DictEntry) (ep : Nat) :
    Walks prog w A I [I, d] [I] es.size (fun i v => ∃ h : i < es.size, v = es[i].key) (fun i h => h.IsKeyIter I d i es.size ep ∧ RawDict h d es ep) where
  sub := fun b hb => by simp at hb; simp [hb]
  frame := fun _ _ _ st hk => ⟨st.1.at fun o e => hk I (by simp) o e, st.2.at fun o e => hk d (by simp) o e⟩
  item := fun i s Q E hi st hQ => by
    refine raw_item st.1 st.2 hi fun h' hit' hs' => ?_
    exact hQ _ h' s.toks ⟨hi, rfl⟩ ⟨hit', st.2.at fun o e => (hs'.2 d hne).trans e⟩ fun b o hb e => hs'.extBut b o (fun h => hb (by simp [h])) e
  done := fun s Q E st hQ => raw_end hh st.1 st.2 (Nat.le_refl _) fun h' he' => hQ h' s.toks fun b o hb e => he' b o (fun h => hb (by simp [h])) e
  self := fun _ _ _ _ st hQ => wpAny_pyIter_keyiter st.1 hQ

theorem raw_src (lo : (d == sysModules) = false) : KdlSrc prog w "dict" d d es.size (fun i v => ∃ h : i < es.size, v = es[i].key) (fun h => RawDict h d es ep) where
  type := fun _ hm => hm.typeIs
  there := fun _ hm => ⟨hm.lt, hm.lt⟩
  keep := fun _ _ hm hk => hm.at fun o e => hk d (.inl rfl) o e
  notList := by decide
  notTuple := by decide
  hint := fun _ _ _ _ hm hq => kdl_hint_dict hm.typeIs hq
  iter := fun _ _ hh hm => ⟨_, _, (fun _ _ hq => raw_iter lo hm hq), raw_walks hh _ d (Nat.ne_of_lt hm.lt) es ep, ⟨⟨_, Heap.get?_push_size _ rfl, rfl, rfl⟩, hm.at fun o e => Heap.get?_push_of_some _ e⟩⟩

theorem raw_collect {Q : List Value → Shared → Prop} (hh : A.handled = none) (lo : (d == sysModules) = false) (hm : RawDict s.heap d es ep) (hz : es.size ≤ sizeLine)
    (hQ : ∀ h' tk, (∀ b o', s.heap.get? b = some o' → h'.get? b = some o') → Q (es.toList.map (·.key)) { s with heap := h', toks := tk }) : wpAny (model prog w) A (collect (.ref d)) Q E s := by
  unfold collect
  refine wpAny_bind (wpAny_runValue (codeAny_builtin F.entry_proto_collect ?_))
  rw [Around.under_plainId F.plain_proto_collect _]
  show wpAny _ A.in1 (newList [] >>= fun l => again (.builtin "list.__iadd__" ⟨[l, .ref d], []⟩)) _ _ s
  refine wpAny_bind (wpAny_newObj_type ?_)
  refine wpAny_pure ⟨plainId_quiet F.plain_list_iadd _, codeAny_builtin F.entry_list_iadd ?_⟩
  rw [Around.under_plainId F.plain_list_iadd _]
  show wpAny _ A.in1 (Builtin.List.listExtendWith (.ref s.heap.objs.size) (.ref d) (.ref s.heap.objs.size)) _ _ _
  have hS : (s.heap.push { cls := .type "list", data := .seq ([] : List Value).toArray }).get? s.heap.objs.size = some { cls := .type "list", data := .seq #[] 0 } := Heap.get?_push_size _ rfl
  have hne : s.heap.objs.size ≠ d := Nat.ne_of_gt hm.lt
  have fin' : ∀ h' tk acc' c', (∀ b o, b ≠ s.heap.objs.size → (s.heap.push { cls := .type "list", data := .seq ([] : List Value).toArray }).get? b = some o → h'.get? b = some o) → h'.get? s.heap.objs.size = some { cls := .type "list", dict := none, data := .seq acc' c', slots := #[] } →
      ItemsOf (fun i v => ∃ h : i < es.size, v = es[i].key) acc' es.size → wpAny (model prog w) A (match Value.ref s.heap.objs.size with
      | Value.ref a => do
        match (← load a).data with
          | Data.seq xs _ => pure xs.toList
          | _ => unsupported "internal:collect"
      | _ => unsupported "internal:collect") Q E { s with heap := h', toks := tk } := by
    intro h' tk acc' c' hk hS' hacc
    show wpAny _ A (load s.heap.objs.size >>= _) _ _ _
    refine wpAny_bind (wpAny_load hS' ?_)
    refine wpAny_pure ?_
    have e : acc'.toList = es.toList.map (·.key) := by
      apply List.ext_getElem?
      intro i
      rw [Array.getElem?_toList, List.getElem?_map, Array.getElem?_toList]
      by_cases q : i < es.size
      · have q' : i < acc'.size := by rw [hacc.1]; exact q
        obtain ⟨_, hv⟩ := hacc.2 i acc'[i] (Array.getElem?_eq_getElem q')
        rw [Array.getElem?_eq_getElem q', Array.getElem?_eq_getElem q, hv]; rfl
      · rw [Array.getElem?_eq_none (by rw [hacc.1]; lia), Array.getElem?_eq_none (by lia)]; rfl
    show Q acc'.toList _
    rw [e]
    exact hQ _ _ fun b o hb => hk b o (Nat.ne_of_lt (Heap.lt_size hb)) (Heap.get?_push_of_some _ hb)
  refine wpAny_mono (kdl_extend (A := A) (R := fun r s' => ∃ h' tk acc' c', r = .ok (.ret (.ref s.heap.objs.size)) ∧ s' = { s with heap := h', toks := tk } ∧ (∀ b o, b ≠ s.heap.objs.size → (s.heap.push { cls := .type "list", data := .seq ([] : List Value).toArray }).get? b = some o → h'.get? b = some o) ∧ h'.get? s.heap.objs.size = some { cls := .type "list", dict := none, data := .seq acc' c', slots := #[] } ∧ ItemsOf (fun i v => ∃ h : i < es.size, v = es[i].key) acc' es.size)
    (s := { s with heap := s.heap.push { cls := .type "list", data := .seq ([] : List Value).toArray } }) (raw_src (ep := ep) lo) hh (hm.at fun o e => Heap.get?_push_of_some _ e) s.heap.objs.size hne hne _ 0 hS (fun h' tk acc' c' hk hS' hacc => ⟨h', tk, acc', c', rfl, rfl, hk, hS', hacc⟩) hz) (fun fin s' h => ?_) fun e s' h => ?_
  · cases fin with
    | done f =>
      obtain ⟨h', tk, acc', c', e, rfl, hk, hS', hacc⟩ := h
      cases e
      exact fin' h' tk acc' c' hk hS' hacc
    | again c' => exact ⟨h.1, codeAny_mono h.2 fun r s'' hr => by obtain ⟨h', tk, acc', c', rfl, rfl, hk, hS', hacc⟩ := hr; exact fin' h' tk acc' c' hk hS' hacc⟩
  · obtain ⟨h', tk, acc', c', e, _⟩ := h
    exact nomatch e
end
end Mine

namespace Mine

/-- the sort, as a plain function: the tree of questions, answered -/
noncomputable def evalT {α : Type} (c : Nat → Nat → Bool) : KasT α → α
  | .ret a => a
  | .ask i j k => evalT c (k (c i j))
noncomputable def lexLt : List Int → List Int → Bool
  | x :: xs, y :: ys => if x = y then lexLt xs ys else decide (x < y)
  | xs, ys => decide (xs.length < ys.length)
noncomputable def srtP (ks : List (List Int)) : List Nat := if ks.length < 2 then List.range ks.length else (evalT (fun i j => lexLt (ks.getD i []) (ks.getD j [])) (kas_sort ks.length)).toList
noncomputable def srt (ks : List (List Int)) : List (List Int) := (srtP ks).map fun i => ks.getD i []

theorem evalT_bind {α β : Type} {c : Nat → Nat → Bool} {f : α → KasT β} : ∀ t : KasT α, evalT c (t.bind f) = evalT c (f (evalT c t))
  | .ret a => rfl
  | .ask i j k => by show evalT c ((k (c i j)).bind f) = _; rw [evalT_bind]; rfl


/-- the permutation stays one -/
def Good (n : Nat) (p : Array Nat) : Prop := p.size = n ∧ ∀ i ∈ p.toList, i < n
theorem Good.perm {n : Nat} {p q : Array Nat} (g : Good n p) (h : q.Perm p) : Good n q :=
  ⟨h.size_eq.trans g.1, fun i hi => g.2 i (by have := h.mem_iff (a := i); simpa using this.mp (by simpa using hi))⟩
theorem Good.rev {n : Nat} {p : Array Nat} (g : Good n p) (i j : Nat) : Good n (kas_rev p i j) := g.perm (mirror_perm _ _ _ _)
theorem Good.bub {n : Nat} {p : Array Nat} (g : Good n p) (i j : Nat) : Good n (bubble p i j) := g.perm (bubble_perm _ _ _)

theorem good_desc {n : Nat} {c : Nat → Nat → Bool} : ∀ (f : Nat) (p : Array Nat) (m q : Nat), Good n p → Good n (evalT c (kas_desc f p m q)).1
  | 0, p, m, q, g => g
  | f + 1, p, m, q, g => by
    unfold kas_desc
    show Good n (evalT c (if c (p.getD m 0) (p.getD (m - 1) 0) = true then (if q > 0 then kas_desc f (kas_rev p (m - (q + 1)) m) (m + 1) 0 else kas_desc f p (m + 1) 0) else .ask (p.getD (m - 1) 0) (p.getD m 0) fun d => if d = true then .ret (p, m, q) else kas_desc f p (m + 1) (q + 1))).1
    split
    · split
      · exact good_desc f _ _ _ (g.rev _ _)
      · exact good_desc f _ _ _ g
    · show Good n (evalT c (if c (p.getD (m - 1) 0) (p.getD m 0) = true then KasT.ret (p, m, q) else kas_desc f p (m + 1) (q + 1))).1
      split
      · exact g
      · exact good_desc f _ _ _ g
theorem good_tail3 {n : Nat} {c : Nat → Nat → Bool} (m nrem : Nat) (p : Array Nat) (g : Good n p) : Good n (evalT c (kas_tail3 m nrem p)).2 := by
  unfold kas_tail3
  rw [evalT_bind]
  exact g.rev _ _
theorem good_descPart {n : Nat} {c : Nat → Nat → Bool} (m nrem : Nat) (p : Array Nat) (g : Good n p) : Good n (evalT c (kas_descPart m nrem p)).2 := by
  unfold kas_descPart
  rw [evalT_bind]
  have h := good_desc (c := c) (nrem - (m + 1)) p (m + 1) 0 g
  generalize evalT c (kas_desc (nrem - (m + 1)) p (m + 1) 0) = r at h
  (try dsimp only)
  split
  · exact good_tail3 _ _ _ (h.rev _ _)
  · exact good_tail3 _ _ _ h
theorem good_count {n : Nat} {c : Nat → Nat → Bool} (nrem : Nat) (p : Array Nat) (g : Good n p) : Good n (evalT c (kas_count nrem p)).2 := by
  unfold kas_count
  rw [evalT_bind]
  generalize evalT c (kas_asc p (nrem - 1) 1) = m
  split
  · exact g
  · split
    · show Good n (evalT c (if c (p.getD 0 0) (p.getD (m - 1) 0) = true then KasT.ret (m, p) else kas_descPart m nrem (kas_rev p 0 m))).2
      split
      · exact g
      · exact good_descPart _ _ _ (g.rev _ _)
    · exact good_descPart _ _ _ g
theorem good_bin {n : Nat} {c : Nat → Nat → Bool} : ∀ (f : Nat) (p : Array Nat) (k : Nat), Good n p → Good n (evalT c (kas_bin f p k))
  | 0, p, k, g => g
  | f + 1, p, k, g => by
    unfold kas_bin
    rw [evalT_bind]
    exact good_bin f _ _ (g.bub _ _)
theorem good_sort {c : Nat → Nat → Bool} (n : Nat) : Good n (evalT c (kas_sort n)) := by
  have g0 : Good n (List.toArray (List.range n)) := ⟨by simp, fun i hi => by simpa using hi⟩
  unfold kas_sort
  rw [evalT_bind]
  have h := good_count (c := c) n _ g0
  split
  · exact good_bin _ _ _ h
  · exact h
theorem srtP_lt {ks : List (List Int)} {i : Nat} (h : i ∈ srtP ks) : i < ks.length := by
  unfold srtP at h
  split at h
  · simpa using h
  · exact (good_sort _).2 i h
theorem srtP_len (ks : List (List Int)) : (srtP ks).length = ks.length := by
  unfold srtP
  split
  · simp
  · rw [Array.length_toList]; exact (good_sort _).1
theorem srt_mem {ks : List (List Int)} {k : List Int} (h : k ∈ srt ks) : k ∈ ks := by
  unfold srt at h
  obtain ⟨i, hi, rfl⟩ := List.mem_map.mp h
  have hl := srtP_lt hi
  rw [List.getD_eq_getElem?_getD, List.getElem?_eq_getElem hl]
  exact List.getElem_mem hl
theorem srt_len (ks : List (List Int)) : (srt ks).length = ks.length := by unfold srt; rw [List.length_map, srtP_len]

section
variable {prog : Program} {w : World} {A : Around} {E : Value → Shared → Prop} {s : Shared}

noncomputable def lexF (fin : Bool) : List Int → List Int → Bool
  | x :: xs, y :: ys => if x = y then lexF fin xs ys else decide (x < y)
  | _, _ => fin
theorem lexF_eq : ∀ (x y x' y' : List Int), (decide (x'.length < y'.length) = decide (x.length < y.length)) → lexF (decide (x'.length < y'.length)) x y = lexLt x y
  | a :: x, b :: y, x', y', h => by
    unfold lexF lexLt
    split
    · exact lexF_eq x y x' y' (by rw [h]; simp)
    · rfl
  | [], y, x', y', h => by unfold lexF lexLt; exact h
  | a :: x, [], x', y', h => by unfold lexF lexLt; exact h

theorem lt_int_one {b : Bool} {x y : Int} {t u : Tok} {Q : Bool → Shared → Prop} (h : Q (decide (x < y)) s) : wpAny (model prog w) A (oneLt' b (.int x t) (.int y u)) Q (fun _ _ => False) s := by
  cases b with
  | true => exact oneLt_int h
  | false => exact kat_one _ _ (PyProof.Rows.lt_int h)

theorem lex_wp {b fin : Bool} {Q : Bool → Shared → Prop} : ∀ {x y : List Int} {us vs : List Value} {i : Nat}, ItemsAre (PySem.intKind prog w) x us → ItemsAre (PySem.intKind prog w) y vs → Q (lexF fin x y) s → KatLex prog w A b fin Q (us.zip vs) i s := fun {x y us vs i} a b h => by
  induction a generalizing y vs i with
  | nil => exact kat_nil (by simpa [lexF] using h)
  | @cons k1 v1 _ _ h1 r1 ih =>
    cases b with
    | nil => exact kat_nil (by simpa [lexF] using h)
    | @cons k2 v2 _ _ h2 r2 =>
      refine kat_cons ((PySem.intKind prog w).eqBool (a := k1) (b := k2) h1 h2 ?_)
      by_cases q : k1 = k2
      · rw [decide_eq_true q]
        refine kat_yes (ih r2 ?_)
        simpa [lexF, q] using h
      · rw [decide_eq_false q]
        obtain ⟨t1, rfl⟩ := Value.isInt_shape h1
        obtain ⟨t2, rfl⟩ := Value.isInt_shape h2
        refine kat_no (lt_int_one ?_)
        simpa [lexF, q] using h

noncomputable def KeysAt (prog : Program) (w : World) (h : Heap) : List (List Int) → List Value → Prop
  | [], [] => True
  | k :: ks, v :: vs => (∃ a, v = .ref a ∧ IsTupleKey (PySem.intKind prog w) h k a) ∧ KeysAt prog w h ks vs
  | _, _ => False
theorem KeysAt.keep {h h' : Heap} (hk : Kept h h') : ∀ {ks : List (List Int)} {vs : List Value}, KeysAt prog w h ks vs → KeysAt prog w h' ks vs
  | [], [], _ => trivial
  | [], _ :: _, x => x.elim
  | _ :: _, [], x => x.elim
  | _ :: _, _ :: _, ⟨⟨a, e, o, its, n, eo, r⟩, x⟩ => ⟨⟨a, e, o, its, n, hk _ _ eo, r⟩, KeysAt.keep hk x⟩
theorem KeysAt.length {h : Heap} : ∀ {ks : List (List Int)} {vs : List Value}, KeysAt prog w h ks vs → vs.length = ks.length
  | [], [], _ => rfl
  | [], _ :: _, x => x.elim
  | _ :: _, [], x => x.elim
  | _ :: _, _ :: _, ⟨_, x⟩ => by simp [KeysAt.length x]
theorem KeysAt.get {h : Heap} : ∀ {ks : List (List Int)} {vs : List Value}, KeysAt prog w h ks vs → ∀ {i : Nat}, i < ks.length → ∃ a, vs.getD i .none = .ref a ∧ IsTupleKey (PySem.intKind prog w) h (ks.getD i []) a
  | [], [], _, i, hi => absurd hi (by simp)
  | [], _ :: _, x, _, _ => x.elim
  | _ :: _, [], x, _, _ => x.elim
  | _ :: _, _ :: _, ⟨⟨a, e, r⟩, x⟩, i, hi => by
    cases i with
    | zero => exact ⟨a, e, r⟩
    | succ i => exact KeysAt.get x (by simpa using hi)

theorem key_lt {κ : Bool} {ks : List (List Int)} {vs : List Value} {i j : Nat} {Q : Bool → Shared → Prop} (K : KeysAt prog w s.heap ks vs) (hi : i < ks.length) (hj : j < ks.length) (h : Q (lexLt (ks.getD i []) (ks.getD j [])) s) :
    kas_ask prog w A (tuples' κ) vs i j Q s := by
  unfold kas_ask
  obtain ⟨a, ea, oa, xs, n, hoa, _, hda, hia⟩ := K.get hi
  obtain ⟨b, eb, ob, ys, m, hob, _, hdb, hib⟩ := K.get hj
  rw [ea, eb]
  refine kat_lt hoa hda hob hdb (lex_wp hia hib ?_)
  have e1 := hia.length
  have e2 := hib.length
  have : decide (xs.size < ys.size) = decide ((ks.getD i []).length < (ks.getD j []).length) := by rw [e1, e2]; simp
  rw [this, lexF_eq _ _ _ _ rfl]
  exact h

/-- the questions only name places of the list -/
noncomputable def Within {α : Type} (n : Nat) (Ok : α → Prop) : KasT α → Prop
  | .ret a => Ok a
  | .ask i j k => i < n ∧ j < n ∧ ∀ b, Within n Ok (k b)
theorem Within.bind {α β : Type} {n : Nat} {Ok : α → Prop} {Ok' : β → Prop} {f : α → KasT β} : ∀ (t : KasT α), Within n Ok t → (∀ a, Ok a → Within n Ok' (f a)) → Within n Ok' (t.bind f)
  | .ret a, h, hf => hf a h
  | .ask i j k, ⟨h1, h2, h3⟩, hf => ⟨h1, h2, fun b => Within.bind (k b) (h3 b) hf⟩
theorem Within.wp {α : Type} {n : Nat} {Ok : α → Prop} {cmp : Nat → Nat → (Bool → Shared → Prop) → Shared → Prop} {c : Nat → Nat → Bool} (h : ∀ i j (C : Bool → Shared → Prop), i < n → j < n → C (c i j) s → cmp i j C s) : ∀ (t : KasT α) {Q : α → Shared → Prop}, Within n Ok t → Q (evalT c t) s → t.kasWp cmp Q s
  | .ret a, Q, _, q => q
  | .ask i j k, Q, ⟨h1, h2, h3⟩, q => h i j _ h1 h2 (Within.wp h (k (c i j)) (h3 _) q)
theorem Good.getD {n : Nat} {p : Array Nat} (g : Good n p) (hn : 0 < n) (i : Nat) : p.getD i 0 < n := by
  by_cases q : i < p.size
  · have : p.getD i 0 = p[i] := by simp [Array.getD, q]
    rw [this]
    exact g.2 _ (by simp)
  · have : p.getD i 0 = 0 := by simp [Array.getD, q]
    rw [this]; exact hn
theorem within_asc {n : Nat} (hn : 0 < n) {p : Array Nat} (g : Good n p) : ∀ (f m : Nat), Within n (fun _ => True) (kas_asc p f m)
  | 0, m => trivial
  | f + 1, m => ⟨g.getD hn _, g.getD hn _, fun b => by cases b <;> simp only [Bool.false_eq_true, if_false, if_true]; exact within_asc hn g f _; exact trivial⟩
theorem within_desc {n : Nat} (hn : 0 < n) : ∀ (f : Nat) (p : Array Nat) (m q : Nat), Good n p → Within n (fun r => Good n r.1) (kas_desc f p m q)
  | 0, p, m, q, g => g
  | f + 1, p, m, q, g => by
    refine ⟨g.getD hn _, g.getD hn _, fun b => ?_⟩
    cases b with
    | true =>
      simp only [if_true]
      split
      · exact within_desc hn f _ _ _ (g.rev _ _)
      · exact within_desc hn f _ _ _ g
    | false =>
      simp only [Bool.false_eq_true, if_false]
      refine ⟨g.getD hn _, g.getD hn _, fun d => ?_⟩
      cases d with
      | true => exact g
      | false => simp only [Bool.false_eq_true, if_false]; exact within_desc hn f _ _ _ g
theorem within_tail3 {n : Nat} (hn : 0 < n) (m nrem : Nat) (p : Array Nat) (g : Good n p) : Within n (fun r => Good n r.2) (kas_tail3 m nrem p) :=
  Within.bind _ (within_asc hn (g.rev _ _) _ _) fun _ _ => g.rev _ _
theorem within_descPart {n : Nat} (hn : 0 < n) (m nrem : Nat) (p : Array Nat) (g : Good n p) : Within n (fun r => Good n r.2) (kas_descPart m nrem p) := by
  refine Within.bind _ (within_desc hn _ p _ _ g) fun r h => ?_
  (try dsimp only)
  split
  · exact within_tail3 hn _ _ _ (h.rev _ _)
  · exact within_tail3 hn _ _ _ h
theorem within_count {n : Nat} (hn : 0 < n) (nrem : Nat) (p : Array Nat) (g : Good n p) : Within n (fun r => Good n r.2) (kas_count nrem p) := by
  refine Within.bind _ (within_asc hn g _ _) fun m _ => ?_
  split
  · exact g
  · split
    · refine ⟨g.getD hn _, g.getD hn _, fun b => ?_⟩
      cases b with
      | true => exact g
      | false => simp only [Bool.false_eq_true, if_false]; exact within_descPart hn _ _ _ (g.rev _ _)
    · exact within_descPart hn _ _ _ g
theorem within_place {n : Nat} (hn : 0 < n) {p : Array Nat} (g : Good n p) (k : Nat) : ∀ (f l r : Nat), Within n (fun _ => True) (kas_place p k f l r)
  | 0, l, r => trivial
  | f + 1, l, r => by
    unfold kas_place
    split
    · exact trivial
    · refine ⟨g.getD hn _, g.getD hn _, fun b => ?_⟩
      cases b with
      | true => simp only [if_true]; exact within_place hn g k f _ _
      | false => simp only [Bool.false_eq_true, if_false]; exact within_place hn g k f _ _
theorem within_bin {n : Nat} (hn : 0 < n) : ∀ (f : Nat) (p : Array Nat) (k : Nat), Good n p → Within n (fun p => Good n p) (kas_bin f p k)
  | 0, p, k, g => g
  | f + 1, p, k, g => Within.bind _ (within_place hn g k _ _ _) fun l _ => within_bin hn f _ _ (g.bub _ _)
theorem within_sort {n : Nat} (hn : 0 < n) : Within n (fun p => Good n p) (kas_sort n) := by
  have g0 : Good n (List.toArray (List.range n)) := ⟨by simp, fun i hi => by simpa using hi⟩
  refine Within.bind _ (within_count hn n _ g0) fun r h => ?_
  split
  · exact within_bin hn _ _ _ h
  · exact h

theorem firsts_of {h : Heap} : ∀ {ks : List (List Int)} {vs : List Value}, KeysAt prog w h ks vs → (∀ k ∈ ks, k ≠ []) → ∃ fs, KatTups h vs fs ∧ fs.length = ks.length ∧ ∀ v ∈ fs, ∃ i t, v = .int i t
  | [], [], _, _ => ⟨[], .nil, rfl, fun _ h => nomatch h⟩
  | [], _ :: _, x, _ => x.elim
  | _ :: _, [], x, _ => x.elim
  | k :: ks, v :: vs, ⟨⟨a, e, o, its, n, eo, ec, ed, hi⟩, x⟩, hne => by
    subst e
    obtain ⟨fs, t, hl, hf⟩ := firsts_of x fun k hk => hne k (List.mem_cons_of_mem _ hk)
    have hk := hne k List.mem_cons_self
    obtain ⟨l⟩ := its
    cases hi with
    | nil => exact absurd rfl hk
    | @cons k1 u ks' us h1 r1 =>
      obtain ⟨t1, rfl⟩ := Value.isInt_shape h1
      refine ⟨_, KatTups.cons eo ec ed (f := .int k1 t1) (by simp) t, by simp [hl], fun v hv => ?_⟩
      rcases List.mem_cons.mp hv with q | q
      · exact ⟨_, _, q⟩
      · exact hf v q

theorem kind_keys {ks : List (List Int)} {vs : List Value} {Q : SortKind → Shared → Prop} (K : KeysAt prog w s.heap ks vs) (hne : ∀ k ∈ ks, k ≠ []) (hpos : 0 < ks.length) (h : Q (tuples' true) s) : wpAny (model prog w) A (keyKind' vs.toArray) Q E s := by
  obtain ⟨fs, t, hl, hf⟩ := firsts_of K hne
  refine kat_kind (T := .type "int") t (by lia) (fun v hv => ?_) (by decide) (by rw [show (Value.type "int" != Value.type "tuple") = true from by decide]; exact h)
  obtain ⟨i, u, rfl⟩ := hf v hv
  exact Looks.of_pure rfl

/-- list.sort over tuples of ints -/
theorem sort_keys {a : Addr} {n : Nat} {ks : List (List Int)} {vs : List Value} {P : PySem.Fin → Shared → Prop} (ho : s.heap.get? a = some (seqObj "list" vs.toArray n)) (h64 : vs.length < 64) (hne : ∀ k ∈ ks, k ≠ [])
    (K : ∀ h' : Heap, (∀ b o, b ≠ a → s.heap.get? b = some o → h'.get? b = some o) → KeysAt prog w h' ks vs)
    (h : ∀ h' c, (∀ b o, b ≠ a → s.heap.get? b = some o → h'.get? b = some o) → h'.get? a = some (seqObj "list" ((srtP ks).map fun i => vs.getD i .none).toArray c) → P (.done (.ret .none)) { s with heap := h' }) :
    wpAny (model prog w) A (Builtin.«list.sort» ⟨[.ref a], []⟩) P E s := by
  have hlen : vs.length = ks.length := (K s.heap fun _ _ _ e => e).length
  have ha : a < s.heap.objs.size := Heap.lt_size ho
  rw [list_sort_plain]
  refine wpAny_bind (listItems_at ho rfl ?_)
  refine wpAny_bind (listUpdate_at ho rfl ?_ (by rw [List.size_toArray, sizeLine_eq]; lia) (Nat.zero_le _))
  obtain ⟨e1, ho1⟩ : ∃ e1, (s.heap.update a (Obj.mapSeq fun _ => (#[] : Array Value))).get? a = some (seqObj "list" #[] e1) := ⟨_, get?_update_seq ho fun _ => #[]⟩
  refine wpAny_bind (seqEpoch_at ho1 rfl ?_)
  refine wpAny_bind (wpAny_newTuple ?_ (by show vs.length ≤ _; rw [sizeLine_eq]; lia))
  refine wpAny_bind (wpAny_newList ?_ (Nat.zero_le _))
  refine wpAny_holding ?_
  show wpAny (model prog w) A _ P E { s with heap := ((s.heap.update a (Obj.mapSeq fun _ => (#[] : Array Value))).push (seqObj "tuple" vs.toArray 0)).push (seqObj "list" #[] 0) }
  have off : ∀ b o, b ≠ a → s.heap.get? b = some o → (((s.heap.update a (Obj.mapSeq fun _ => (#[] : Array Value))).push (seqObj "tuple" vs.toArray 0)).push (seqObj "list" #[] 0)).get? b = some o := fun b o hb e =>
    Heap.get?_push_of_some _ (Heap.get?_push_of_some _ ((Heap.get?_update_other _ _ (Ne.symm hb)).trans e))
  have ho6 : (((s.heap.update a (Obj.mapSeq fun _ => (#[] : Array Value))).push (seqObj "tuple" vs.toArray 0)).push (seqObj "list" #[] 0)).get? a = some (seqObj "list" #[] e1) := Heap.get?_push_of_some _ (Heap.get?_push_of_some _ ho1)
  have K6 := K _ off
  generalize ((s.heap.update a (Obj.mapSeq fun _ => (#[] : Array Value))).push (seqObj "tuple" vs.toArray 0)).push (seqObj "list" #[] 0) = h6 at off ho6 K6
  dsimp only
  have fin : ∀ (out : List Value), out = ((srtP ks).map fun i => vs.getD i .none) → ∀ h' : Heap, h' = h6.update a (Obj.mapSeq fun _ => out.toArray) → P (.done (.ret .none)) { s with heap := h' } := fun out eo h' eh => by
    subst eo eh
    exact h _ _ (fun b o hb e => (Heap.get?_update_other _ _ (Ne.symm hb)).trans (off b o hb e)) (get?_update_seq ho6 _)
  by_cases h2 : vs.toArray.size < 2
  · rw [if_pos h2, if_pos h2]
    refine wpAny_bind (wpAny_pure ?_)
    rw [StateT.run_pure]
    refine wpAny_bind (wpAny_pure ?_)
    dsimp only
    have hout : (arrOf (SortSt.mk' general' (vs.toArray.zip vs.toArray) #[] 7 none)).map (·.2) = vs.toArray := by
      show (vs.toArray.zip vs.toArray).map (·.2) = vs.toArray
      apply Array.toList_inj.mp
      rw [Array.toList_map, Array.toList_zip]
      show List.map (fun x => x.2) (vs.zip vs) = vs
      rw [List.map_snd_zip (Nat.le_refl _)]
    rw [hout]
    refine wpAny_bind (seqEpoch_at ho6 rfl ?_)
    refine wpAny_bind (listUpdate_at ho6 rfl ?_ (Nat.zero_le _) (by show vs.toArray.size ≤ _; lia))
    simp only [bne_self_eq_false, Bool.false_eq_true, if_false]
    refine wpAny_pure (fin vs ?_ _ rfl)
    unfold srtP
    rw [if_pos (by simpa [hlen] using h2)]
    rw [← hlen]
    apply List.ext_getElem (by simp)
    intro i h1 h2'
    simp [List.getElem?_eq_getElem h1]
  · rw [if_neg h2, if_neg h2]
    have h2' : 2 ≤ vs.length := by simpa using h2
    refine wpAny_bind (kind_keys K6 hne (by lia) ?_)
    refine wpAny_bind (wpAny_mono (kat_run (E := E) (κ := tuples' true) (ks := vs) (vs := vs) (Q := fun st' s' => ∃ p : Array Nat, p.size = vs.length ∧ arrOf st' = p.map (kas_item (vs.toArray.zip vs.toArray)) ∧ failedOf st' = none ∧ p.toList = srtP ks ∧ s' = { s with heap := h6 })
      (G := fun p s' => p.toList = srtP ks ∧ s' = { s with heap := h6 }) rfl h2' h64 (fun p' st' s' a1 a2 a3 a4 => ⟨p', a1, a2, a3, a4.1, a4.2⟩) ?_) ?_ fun _ _ e => e)
    · refine Within.wp (Ok := fun p => Good vs.length p) (c := fun i j => lexLt (ks.getD i []) (ks.getD j [])) (fun i j C hi hj hC => key_lt K6 (by lia) (by lia) hC) _ (within_sort (by lia)) ⟨?_, rfl⟩
      unfold srtP
      rw [if_neg (by lia), hlen]
    · rintro ⟨⟨⟩, st'⟩ s' ⟨p, hp, har, hf, hs, rfl⟩
      dsimp only
      have hout := kat_snds (ks := vs) (vs := vs) rfl har
      rw [hout]
      refine wpAny_bind (seqEpoch_at ho6 rfl ?_)
      refine wpAny_bind (listUpdate_at ho6 rfl ?_ (Nat.zero_le _) (by rw [List.size_toArray, List.length_map, Array.length_toList, hp, sizeLine_eq]; lia))
      rw [hf]
      simp only [bne_self_eq_false, Bool.false_eq_true, if_false]
      exact wpAny_pure (fin _ (by rw [hs]) _ rfl)

theorem call_sorted_dict {d : Addr} {es : Array DictEntry} {ep : Nat} {ks : List (List Int)} {Q : Value → Shared → Prop} (hh : A.handled = none) (lo : (d == sysModules) = false) (hm : RawDict s.heap d es ep) (h64 : es.size < 64) (hne : ∀ k ∈ ks, k ≠ [])
    (K : KeysAt prog w s.heap ks (es.toList.map (·.key)))
    (h : ∀ D h' tk c, Kept s.heap h' → s.heap.get? D = none → h'.get? D = some (seqObj "list" ((srtP ks).map fun i => (es.toList.map (·.key)).getD i .none).toArray c) → Q (.ref D) { s with heap := h', toks := tk }) :
    wpAny (model prog w) A (call (.builtin "sorted") [.ref d]) Q E s := by
  refine Calls.call_function_entry kind_sorted plain_sorted entry_sorted (args_sorted1 _) ?_
  unfold Builtin.«sorted»
  refine wpAny_bind (m := checkCount "sorted" 1 1 _) (wpAny_pure ?_)
  have hz : es.size ≤ sizeLine := by rw [sizeLine_eq]; lia
  show wpAny _ _ (collect (.ref d) >>= _) _ _ _
  refine wpAny_bind (raw_collect hh lo hm hz fun h1 tk hk => ?_)
  have hlen : (es.toList.map (·.key)).length = es.size := by simp
  refine wpAny_bind (wpAny_newList ?_ (by lia))
  have hoL : (h1.push (seqObj "list" (es.toList.map (·.key)).toArray 0)).get? h1.objs.size = some (seqObj "list" (es.toList.map (·.key)).toArray 0) := Heap.get?_push_size _ rfl
  have new : s.heap.get? h1.objs.size = none := by
    cases e : s.heap.get? h1.objs.size with
    | none => rfl
    | some o => exact absurd (Heap.lt_size (hk _ _ e)) (Nat.lt_irrefl _)
  have kp : ∀ (h' : Heap), (∀ b o, b ≠ h1.objs.size → (h1.push (seqObj "list" (es.toList.map (·.key)).toArray 0)).get? b = some o → h'.get? b = some o) → Kept s.heap h' := fun h' k b o e =>
    k b o (fun q => by rw [← q, e] at new; exact nomatch new) (Heap.get?_push_of_some _ (hk b o e))
  refine wpAny_bind (wpAny_holding (wpAny_call_entry slot_list_sort ⟨_, hoL, rfl⟩ entry_list_sort (sort_keys (s := { s with heap := h1.push (seqObj "list" (es.toList.map (·.key)).toArray 0), toks := tk }) hoL (by lia) hne (fun h' k => K.keep (kp h' k)) fun h' c k e => ?_) (args_list_sort _)))
  exact ⟨_, rfl, wpAny_pure ⟨_, rfl, h _ h' tk c (kp h' k) new e⟩⟩

/-- dict(d) -/
theorem call_dictH {K : Type} [DecidableEq K] {knd : HeapKind prog w K} {o : Addr} {xs : List (K × Addr × Value)} {Q : Value → Shared → Prop} (hoS : (o == sysModules) = false) (hm : s.heap.DictOfH knd o xs) (hq : ∀ x ∈ xs, s.TypeIs (.ref x.2.1) "tuple")
    (hh : ∀ x ∈ xs, ∀ y ∈ xs, knd.hash x.1 = knd.hash y.1 → x.1 = y.1) (hsz : xs.length ≤ sizeLine) (hpush : ∀ x ∈ xs, knd.is (s.heap.push { cls := .type "dict", data := .dict #[] }) x.1 x.2.1)
    (h : ∀ h', h'.DictOfH knd s.heap.objs.size xs → Kept s.heap h' → Q (.ref s.heap.objs.size) { s with heap := h' }) :
    wpAny (model prog w) A (call (.type "dict") [.ref o]) Q E s := by
  refine callType_codes (Q₁ := fun obj s₁ => obj = .ref s.heap.objs.size ∧ s₁ = { s with heap := s.heap.push { cls := .type "dict", data := .dict #[] } }) F.kt_called_dict (F.kt_typeCall_dict_1 _) F.entry_dict_init (kt_code_dict_new _ ⟨rfl, rfl⟩) ?_
  rintro obj s₁ ⟨rfl, rfl⟩
  have hnew : (s.heap.push { cls := .type "dict", data := .dict #[] }).get? s.heap.objs.size = some { cls := .type "dict", data := .dict #[] } := Heap.get?_push_size _ rfl
  have hT : Shared.TypeIs { s with heap := s.heap.push { cls := .type "dict", data := .dict #[] } } (.ref s.heap.objs.size) "dict" := ⟨_, hnew, rfl⟩
  have hm' : (s.heap.push { cls := .type "dict", data := .dict #[] }).DictOfH knd o xs := by
    obtain ⟨oo, es, ep, e, c, d, he, hk, hn⟩ := hm
    exact ⟨oo, es, ep, Heap.get?_push_of_some _ e, c, d, he, hpush, hn⟩
  have hdo : s.heap.objs.size ≠ o := by
    obtain ⟨_, _, _, hg, _⟩ := hm
    exact fun e => absurd (Heap.lt_size hg) (by rw [e]; exact Nat.lt_irrefl _)
  refine ⟨hT, F.args_dict_init_2 _ _, ?_⟩
  unfold Builtin.«dict.__init__»
  refine wpAny_bind ?_
  unfold Builtin.Dict.selfAndRest
  refine wpAny_bind (wpAny_notOrdered_dict hT ?_)
  show wpAny _ _ (pure (s.heap.objs.size, [Value.ref o])) _ _ _
  refine wpAny_pure ?_
  show wpAny _ _ (Builtin.Dict.updateFrom "dict.__init__" s.heap.objs.size (.ref o) [] .none) _ _ _
  unfold Builtin.Dict.updateFrom
  refine wpAny_bind (wpAny_typeOf hm'.typeIs ?_)
  rw [if_neg (by decide)]
  refine wpAny_bind ?_
  unfold Builtin.Dict.merge
  refine wpAny_bind ?_
  unfold Builtin.Dict.readDirectly
  refine wpAny_bind (wpAny_isInstance hm'.typeIs isSubtype_dict_dict ?_)
  simp only [Bool.not_true, Bool.false_eq_true, if_false]
  refine wpAny_bind (wpAny_specialOf hm'.typeIs F.slot_dict_iter.lookup (wpAny_pure ?_))
  simp only [beq_self_eq_true, if_true]
  refine wpAny_bind (wpAny_pure ?_)
  refine mergeDictH (s := { s with heap := s.heap.push { cls := .type "dict", data := .dict #[] } }) hdo hoS hnew hm' (fun x hx => ?_) hh hsz fun h' hd' hs' => ?_
  · obtain ⟨ob, e, c⟩ := hq x hx
    exact ⟨ob, Heap.get?_push_of_some _ e, c⟩
  · show wpAny _ _ (Builtin.Dict.addKeywords s.heap.objs.size [] >>= _) _ _ _
    refine wpAny_bind (wpAny_pure (wpAny_pure ⟨rfl, h h' hd' fun b o' e => ?_⟩))
    exact (hs'.2 b (Nat.ne_of_lt (Heap.lt_size e))).trans (Heap.get?_push_of_some _ e)
end
end Mine

namespace Mine

def rotN (a : Nat) : Nat := (a * 2147483648) % 18446744073709551616 + a / 8589934592
def stepN (acc x : Nat) : Nat := (rotN ((acc + x * 14029467366897019727) % 18446744073709551616) * 11400714785074694791) % 18446744073709551616
def endN (a : Nat) : Int := if a == 18446744073709551615 then 1546275796 else if a < 9223372036854775808 then a else (a : Int) - 18446744073709551616
def foldN (u : Nat) : Nat := ((rotN ((u * 14029467366897019727) % 18446744073709551616) * 11400714785074694791) % 18446744073709551616 + 2870177450013471924) % 18446744073709551616

theorem rot_eq (x : Nat) (hx : x < 18446744073709551616) : rotN x = (x % 8589934592) * 2147483648 + x / 8589934592 := by
  unfold rotN
  have : (18446744073709551616 : Nat) = 8589934592 * 2147483648 := by decide
  rw [this, Nat.mul_mod_mul_right]
theorem rot_inj {x y : Nat} (hx : x < 18446744073709551616) (hy : y < 18446744073709551616) (h : rotN x = rotN y) : x = y := by
  rw [rot_eq x hx, rot_eq y hy] at h; lia
theorem rot_lt {x : Nat} (hx : x < 18446744073709551616) : rotN x < 18446744073709551616 := by
  rw [rot_eq x hx]; lia
theorem mulmod_back (m p q x : Nat) (hpq : (p * q) % m = 1 % m) (hx : x < m) : (x * p % m * q) % m = x := by
  rw [Nat.mod_mul_mod, Nat.mul_assoc, Nat.mul_mod, hpq, ← Nat.mul_mod, Nat.mul_one, Nat.mod_eq_of_lt hx]
theorem mulmod_inj (m p q x y : Nat) (hpq : (p * q) % m = 1 % m) (hx : x < m) (hy : y < m) (h : x * p % m = y * p % m) : x = y := by
  rw [← mulmod_back m p q x hpq hx, h, mulmod_back m p q y hpq hy]
theorem inv1 : (11400714785074694791 * 614540362697595703) % 18446744073709551616 = 1 % 18446744073709551616 := by decide
theorem inv2 : (14029467366897019727 * 839798700976720815) % 18446744073709551616 = 1 % 18446744073709551616 := by decide
theorem add_inj_mod {x y c : Nat} (hx : x < 18446744073709551616) (hy : y < 18446744073709551616) (h : (x + 2870177450013471924) % 18446744073709551616 = (y + 2870177450013471924) % 18446744073709551616) : x = y := by lia
theorem ml (x : Nat) : x % 18446744073709551616 < 18446744073709551616 := Nat.mod_lt _ (by decide)
theorem foldN_inj {x y : Nat} (hx : x < 18446744073709551616) (hy : y < 18446744073709551616) (h : foldN x = foldN y) : x = y := by
  unfold foldN at h
  have h1 := add_inj_mod (c := 0) (ml _) (ml _) h
  have h2 := mulmod_inj _ _ _ _ _ inv1 (rot_lt (ml _)) (rot_lt (ml _)) h1
  have h3 := rot_inj (ml _) (ml _) h2
  exact mulmod_inj _ _ _ _ _ inv2 hx hy h3
theorem foldN_top : foldN 15746002411462551884 = 18446744073709551615 := by decide
theorem foldN_lt (x : Nat) : foldN x < 18446744073709551616 := Nat.mod_lt _ (by decide)
theorem endN_inj {x y : Nat} (hx : x < 18446744073709551616) (hy : y < 18446744073709551616) (nx : x ≠ 18446744073709551615) (ny : y ≠ 18446744073709551615) (h : endN x = endN y) : x = y := by
  simp only [endN, beq_iff_eq, nx, ny, if_false] at h
  split at h <;> split at h <;> lia
theorem endN_range {x : Nat} (hx : x < 18446744073709551616) : -9223372036854775808 ≤ endN x ∧ endN x < 9223372036854775808 := by
  unfold endN
  split
  · lia
  · split <;> lia

def startN (l : Nat) : Nat := if l = 1 then 12418310136014612966 else if l = 2 then 10049765409666327412 else if l = 3 then 7996499203468434507 else 5627954477120148953

theorem step_of (B u acc x : Nat) (h : acc = B * 14029467366897019727 % 18446744073709551616) (e : (B + x) % 18446744073709551616 = u) :
    (stepN acc x + 2870177450013471924) % 18446744073709551616 = foldN u := by
  subst e h
  unfold stepN foldN
  have : (B * 14029467366897019727 % 18446744073709551616 + x * 14029467366897019727) % 18446744073709551616 = (B + x) % 18446744073709551616 * 14029467366897019727 % 18446744073709551616 := by
    rw [Nat.mod_mul_mod, Nat.add_mul, Nat.mod_add_mod]
  rw [this]
theorem start_1 : stepN 2870177450012600261 1 = 12418310136014612966 * 14029467366897019727 % 18446744073709551616 := by decide
theorem start_2 : stepN 2870177450012600261 2 = 10049765409666327412 * 14029467366897019727 % 18446744073709551616 := by decide
theorem start_3 : stepN 2870177450012600261 3 = 7996499203468434507 * 14029467366897019727 % 18446744073709551616 := by decide
theorem start_4 : stepN 2870177450012600261 4 = 5627954477120148953 * 14029467366897019727 % 18446744073709551616 := by decide
theorem start_of {l : Nat} (h1 : 1 ≤ l) (h4 : l ≤ 4) : stepN 2870177450012600261 l = startN l * 14029467366897019727 % 18446744073709551616 := by
  have : l = 1 ∨ l = 2 ∨ l = 3 ∨ l = 4 := by lia
  rcases this with rfl | rfl | rfl | rfl
  · exact start_1
  · exact start_2
  · exact start_3
  · exact start_4

def keyN (l c : Nat) : Nat := (startN l + c) % 18446744073709551616
theorem keyN_inj {l c l' c' : Nat} (h1 : 1 ≤ l) (h4 : l ≤ 4) (hc : c < 4294967296) (h1' : 1 ≤ l') (h4' : l' ≤ 4) (hc' : c' < 4294967296) (h : keyN l c = keyN l' c') : l = l' ∧ c = c' := by
  unfold keyN at h
  have e : l = 1 ∨ l = 2 ∨ l = 3 ∨ l = 4 := by lia
  have e' : l' = 1 ∨ l' = 2 ∨ l' = 3 ∨ l' = 4 := by lia
  rcases e with rfl | rfl | rfl | rfl <;> rcases e' with rfl | rfl | rfl | rfl <;> simp only [startN, if_true, Nat.reduceEqDiff, if_false] at h <;> constructor <;> lia
theorem keyN_top {l c : Nat} (h1 : 1 ≤ l) (h4 : l ≤ 4) (hc : c < 4294967296) : keyN l c ≠ 15746002411462551884 := by
  unfold keyN
  have e : l = 1 ∨ l = 2 ∨ l = 3 ∨ l = 4 := by lia
  rcases e with rfl | rfl | rfl | rfl <;> simp only [startN, if_true, Nat.reduceEqDiff, if_false] <;> lia

def hashN (l c : Nat) : Int := endN (foldN (keyN l c))
theorem hashN_inj {l c l' c' : Nat} (h1 : 1 ≤ l) (h4 : l ≤ 4) (hc : c < 4294967296) (h1' : 1 ≤ l') (h4' : l' ≤ 4) (hc' : c' < 4294967296) (h : hashN l c = hashN l' c') : l = l' ∧ c = c' := by
  have nt : ∀ l c, 1 ≤ l → l ≤ 4 → c < 4294967296 → foldN (keyN l c) ≠ 18446744073709551615 := fun l c a b d e => keyN_top a b d (foldN_inj (ml _) (by decide) (e.trans foldN_top.symm))
  exact keyN_inj h1 h4 hc h1' h4' hc' (foldN_inj (ml _) (ml _) (endN_inj (foldN_lt _) (foldN_lt _) (nt _ _ h1 h4 hc) (nt _ _ h1' h4' hc') h))

theorem lane_nat (x : Nat) (hx : x < 18446744073709551616) : (((x : Int)) % ((18446744073709551616 : Nat) : Int)).toNat = x := by
  lia

def hashG (m p1 p2 p5 e31 e33 e63 q t : Nat) (hs : List Int) : Int :=
  let acc := hs.foldl (init := p5) fun acc h =>
    let acc := (acc + (h % (m : Int)).toNat * p2) % m
    let acc := (acc * e31) % m + acc / e33
    (acc * p1) % m
  let acc := (acc + (hs.length ^^^ (p5 ^^^ q))) % m
  if acc == m - 1 then t else if acc < e63 then acc else (acc : Int) - m
theorem hashG_is (hs : List Int) : Builtin.Tuple.tupleHashOf hs = hashG (2 ^ 64) 11400714785074694791 14029467366897019727 2870177450012600261 (2 ^ 31) (2 ^ 33) (2 ^ 63) 3527539 1546275796 hs := rfl

def stepG (m p1 p2 e31 e33 acc x : Nat) : Nat := (((acc + x * p2) % m * e31) % m + ((acc + x * p2) % m) / e33) * p1 % m
theorem hashG_two (m p1 p2 p5 e31 e33 e63 q t x y C : Nat) (hx : (((x : Int)) % (m : Int)).toNat = x) (hy : (((y : Int)) % (m : Int)).toNat = y) (hC : (2 ^^^ (p5 ^^^ q)) = C) (A : Nat) (hA : A = (stepG m p1 p2 e31 e33 (stepG m p1 p2 e31 e33 p5 x) y + C) % m) :
    hashG m p1 p2 p5 e31 e33 e63 q t [(x : Int), (y : Int)] = if A == m - 1 then (t : Int) else if A < e63 then (A : Int) else (A : Int) - m := by
  unfold hashG
  simp only [List.foldl_cons, List.foldl_nil, List.length_cons, List.length_nil, Nat.zero_add, Nat.reduceAdd, hx, hy, hC]
  subst hA
  rfl
theorem hash_two (x y : Nat) (hx : x < 18446744073709551616) (hy : y < 18446744073709551616) :
    Builtin.Tuple.tupleHashOf [(x : Int), (y : Int)] = endN ((stepN (stepN 2870177450012600261 x) y + 2870177450013471924) % 18446744073709551616) := by
  have e1 : (2 : Nat) ^ 64 = 18446744073709551616 := by decide
  have e2 : (2 : Nat) ^ 31 = 2147483648 := by decide
  have e3 : (2 : Nat) ^ 33 = 8589934592 := by decide
  have e4 : (2 : Nat) ^ 63 = 9223372036854775808 := by decide
  have e5 : (2 ^^^ (2870177450012600261 ^^^ 3527539) : Nat) = 2870177450013471924 := by decide
  have e6 : (18446744073709551616 - 1 : Nat) = 18446744073709551615 := by decide
  rw [hashG_is, e1, e2, e3, e4]
  rw [hashG_two _ _ _ _ _ _ _ _ _ _ _ _ (lane_nat x hx) (lane_nat y hy) e5 _ rfl, e6]
  rfl
end Mine

namespace Mine

theorem hashInt_nat (c : Nat) (hc : c < 4294967296) : hashInt (c : Int) = (c : Int) := by
  have e1 : (2 : Nat) ^ 61 - 1 = 2305843009213693951 := by decide
  have h : rawHash (c : Int) = (c : Int) := by
    unfold rawHash
    rw [e1]
    have hm : ((c : Int) % ((2305843009213693951 : Nat) : Int)) = c := Int.emod_eq_of_lt (by lia) (by lia)
    have h3 : ((c : Int) == -1) = false := by rw [beq_eq_false_iff_ne]; lia
    have h4 : ¬ ((c : Int) < 0) := by lia
    simp only [Int.natAbs_natCast, hm, if_neg h4, h3]
    rfl
  unfold hashInt
  rw [h]
  have : ((c : Int) == -1) = false := by rw [beq_eq_false_iff_ne]; lia
  rw [this]; rfl

/-- a key as the program makes it: a length, a code -/
def KeyDom (k : List Int) : Prop := ∃ l c : Nat, k = [(l : Int), (c : Int)] ∧ 1 ≤ l ∧ l ≤ 4 ∧ c < 4294967296

section
variable {prog : Program} {w : World}
theorem reduce_range {x : Int} (h : -9223372036854775808 ≤ x ∧ x < 9223372036854775808) : reduceHash x = if (x == -1) = true then -2 else x := by
  unfold reduceHash
  have e : (2 : Int) ^ 63 = 9223372036854775808 := by decide
  rw [e, if_pos (by simp only [Bool.and_eq_true, decide_eq_true_eq]; exact h)]
theorem endN_not {x : Nat} (hx : x < 18446744073709551616) (nx : x ≠ 18446744073709551615) : endN x ≠ -1 := by
  simp only [endN, beq_iff_eq, nx, if_false]
  split <;> lia
theorem keyHash {l c : Nat} (h1 : 1 ≤ l) (h4 : l ≤ 4) (hc : c < 4294967296) : tupleKeyHash (PySem.intKind prog w) [(l : Int), (c : Int)] = hashN l c := by
  unfold tupleKeyHash
  have e1 : (PySem.intKind prog w).hash (l : Int) = (l : Int) := hashInt_nat l (by lia)
  have e2 : (PySem.intKind prog w).hash (c : Int) = (c : Int) := hashInt_nat c hc
  simp only [List.map_cons, List.map_nil, e1, e2]
  rw [hash_two l c (by lia) (by lia), step_of (startN l) (keyN l c) _ c (start_of h1 h4) rfl]
  have nt : foldN (keyN l c) ≠ 18446744073709551615 := fun e => keyN_top h1 h4 hc (foldN_inj (ml _) (by decide) (e.trans foldN_top.symm))
  rw [reduce_range (endN_range (foldN_lt _)), if_neg (by simpa using endN_not (foldN_lt _) nt)]
  rfl
theorem keyHash_inj {k k' : List Int} (h : KeyDom k) (h' : KeyDom k') (e : tupleKeyHash (PySem.intKind prog w) k = tupleKeyHash (PySem.intKind prog w) k') : k = k' := by
  obtain ⟨l, c, rfl, a1, a2, a3⟩ := h
  obtain ⟨l', c', rfl, b1, b2, b3⟩ := h'
  rw [keyHash a1 a2 a3, keyHash b1 b2 b3] at e
  obtain ⟨rfl, rfl⟩ := hashN_inj a1 a2 a3 b1 b2 b3 e
  rfl
end

section
variable {Γ : Cx} {σ : St} {E : ExPost}

theorem reps_items {h : Heap} {Z : Addr → Prop} {prog : Program} {w : World} : ∀ {ns : List Int} {vs : List Value}, ItemsAre (PySem.intKind prog w) ns vs → Reps Γ.toWd h Z (ns.map D.int) vs := fun {ns vs} x => by
  induction x with
  | nil => exact rfl
  | cons h1 _ ih =>
    obtain ⟨t, rfl⟩ := Value.isInt_shape h1
    exact Reps.cons ⟨t, rfl⟩ ih
theorem rep_key {h : Heap} {Z : Addr → Prop} {k : List Int} {a : Addr} (z : Z a) (x : IsTupleKey (PySem.intKind Γ.prog Γ.w) h k a) : Rep Γ.toWd h Z (dkey k) (.ref a) := by
  obtain ⟨o, its, n, e, c, d, hi⟩ := x
  exact ⟨a, its.toList, rfl, z, ⟨o, e, c, n, by simpa using d⟩, reps_items hi⟩
theorem keys_at {h : Heap} : ∀ {xs : List (List Int × Addr × Value)}, (∀ x ∈ xs, IsTupleKey (PySem.intKind Γ.prog Γ.w) h x.1 x.2.1) → KeysAt Γ.prog Γ.w h (xs.map (·.1)) ((xs.map (entryOfKey (tupleKind (PySem.intKind Γ.prog Γ.w)))).map (·.key))
  | [], _ => trivial
  | x :: xs, h => ⟨⟨x.2.1, rfl, h x List.mem_cons_self⟩, keys_at fun y hy => h y (List.mem_cons_of_mem _ hy)⟩

theorem notModules {g : Gh} {h : Heap} (a : At Γ g σ h) : (h.objs.size == sysModules) = false := by
  have := PyProof.Rows.modules_low (a.ok.lim.keeps a.keep)
  rw [beq_eq_false_iff_ne]
  exact Nat.ne_of_gt this
/-- sorted(d) over a dict with tuples of ints for keys -/
theorem CallOk.sorted {al : List (List Int × D)} (h64 : al.length < 64) (hne : ∀ x ∈ al, x.1 ≠ []) : CallOk Γ (.builtin "sorted") [dtd al] (.lst ((srt (al.map (·.1))).map dkey)) := fun g σ s vs a r => by
  obtain ⟨v, ws, rfl, ⟨x, xs, rfl, zx, hs, hm, e, zk, rs⟩, e0⟩ := r
  cases e0
  obtain ⟨o, es, ep, eo, ed, hd, he, hi, hn⟩ := hm
  have hl : es.size = al.length := by
    have h1 := congrArg List.length he
    have h2 := congrArg List.length e
    simp at h1 h2; lia
  have K : KeysAt Γ.prog Γ.w s.heap (al.map (·.1)) (es.toList.map (·.key)) := by
    rw [he, ← e]; exact keys_at hi
  refine call_sorted_dict (ks := al.map (·.1)) a.ok.hd hs ⟨o, eo, ed.1, hd⟩ (by lia) (fun k hk => ?_) K fun D h' tk c hk hD eD => ?_
  · obtain ⟨y, hy, rfl⟩ := List.mem_map.mp hk
    exact hne y hy
  · refine PR.keep hk (RepV.of ⟨D, _, rfl, fresh_z hD eD, ⟨_, eD, rfl, c, rfl⟩, ?_⟩)
    have zkey : ∀ i, i < (al.map (·.1)).length → ∃ b, (es.toList.map (·.key)).getD i .none = .ref b ∧ g.z b := fun i hi => by
      have hx : i < xs.length := by have := congrArg List.length e; simp at this hi; lia
      refine ⟨(xs[i]).2.1, ?_, zk _ (List.getElem_mem _)⟩
      rw [he]
      simp [hx, entryOfKey]
    unfold srt
    have step : ∀ (is : List Nat), (∀ i ∈ is, i < (al.map (·.1)).length) → Reps Γ.toWd h' (g.grow s.heap h').z ((is.map fun i => (al.map (·.1)).getD i []).map dkey) (is.map fun i => (es.toList.map (·.key)).getD i .none) := by
      intro is
      induction is with
      | nil => intro _; exact rfl
      | cons i is ih =>
        intro hlt
        refine Reps.cons ?_ (ih fun j hj => hlt j (List.mem_cons_of_mem _ hj))
        obtain ⟨b, eb, rb⟩ := K.get (hlt i List.mem_cons_self)
        obtain ⟨b', eb', zb⟩ := zkey i (hlt i List.mem_cons_self)
        rw [eb] at eb'; cases eb'
        show Rep _ _ _ _ ((es.toList.map (·.key)).getD i .none)
        rw [eb]
        exact rep_key (.inl zb) (isTupleKey_keep rb fun o e => hk _ _ e)
    exact step _ fun i hi => srtP_lt hi

/-- dict(d) -/
theorem CallOk.dict_copy {al : List (List Int × D)} (hz : al.length ≤ sizeLine) (hdom : ∀ x ∈ al, KeyDom x.1) : CallOk Γ (.type "dict") [dtd al] (dtd al) := fun g σ s vs a r => by
  obtain ⟨v, ws, rfl, ⟨x, xs, rfl, zx, hs, hm, e, zk, rs⟩, e0⟩ := r
  cases e0
  have hl : xs.length = al.length := by have := congrArg List.length e; simpa using this
  have hi : ∀ x ∈ xs, IsTupleKey (PySem.intKind Γ.prog Γ.w) s.heap x.1 x.2.1 := by obtain ⟨_, _, _, _, _, _, _, h, _⟩ := hm; exact h
  have hdom' : ∀ x ∈ xs, KeyDom x.1 := fun y hy => by
    have : y.1 ∈ al.map (·.1) := by rw [← e]; exact List.mem_map.mpr ⟨y, hy, rfl⟩
    obtain ⟨z, hz, q⟩ := List.mem_map.mp this
    rw [← q]; exact hdom z hz
  refine call_dictH hs hm (fun y hy => (hi y hy).typeIs) (fun y hy z hz q => keyHash_inj (hdom' y hy) (hdom' z hz) q) (by lia) (fun y hy => isTupleKey_keep (hi y hy) fun o e => kept_push _ _ _ _ e) fun h' hm' hk => ?_
  have hlive : ∃ o, h'.get? s.heap.objs.size = some o := by obtain ⟨o, _, _, e, _⟩ := hm'; exact ⟨o, e⟩
  obtain ⟨o', eo'⟩ := hlive
  refine PR.keep hk (RepV.of ⟨_, xs, rfl, fresh_z (fresh_size _) eo', ?_, hm', e, fun y hy => .inl (zk y hy), rs.grow hk⟩)
  exact notModules a
theorem atKey_of_mem {xs : List (List Int × Addr × Value)} (hn : (xs.map (·.1)).Nodup) {x : List Int × Addr × Value} (hx : x ∈ xs) : atKey xs x.1 = some x.2 := by
  obtain ⟨i, hi⟩ := List.mem_iff_getElem?.mp hx
  exact atKey_of_get hn hi

theorem reps_zip {h : Heap} {Z : Addr → Prop} {f : List Int × Str → D} : ∀ {al : List (List Int × Str)} {xs : List (List Int × Addr × Value)}, xs.map (·.1) = al.map (·.1) → Reps Γ.toWd h Z (al.map f) (xs.map (·.2.2)) →
    ∀ x ∈ xs, ∃ y ∈ al, y.1 = x.1 ∧ Rep Γ.toWd h Z (f y) x.2.2
  | [], [], _, _, x, hx => nomatch hx
  | [], _ :: _, e, _, _, _ => by simp at e
  | _ :: _, [], e, _, _, _ => by simp at e
  | y :: al, x :: xs, e, r, z, hz => by
    simp only [List.map_cons, List.cons.injEq] at e
    simp only [List.map_cons] at r
    unfold Reps at r; obtain ⟨v, ws, e2, r1, r2⟩ := r
    simp only [List.cons.injEq] at e2
    obtain ⟨e3, rfl⟩ := e2
    rcases List.mem_cons.mp hz with rfl | q
    · exact ⟨y, List.mem_cons_self, e.1.symm, by rw [e3]; exact r1⟩
    · obtain ⟨y', h1, h2, h3⟩ := reps_zip e.2 r2 z q
      exact ⟨y', List.mem_cons_of_mem _ h1, h2, h3⟩
theorem nodup_fst {α β : Type} {al : List (α × β)} (hn : (al.map (·.1)).Nodup) {x y : α × β} (hx : x ∈ al) (hy : y ∈ al) (e : x.1 = y.1) : x = y := by
  induction al with
  | nil => exact nomatch hx
  | cons z r ih =>
    rw [List.map_cons, List.nodup_cons] at hn
    rcases List.mem_cons.mp hx with h1 | h1 <;> rcases List.mem_cons.mp hy with h2 | h2
    · rw [h1, h2]
    · subst h1; exact (hn.1 (List.mem_map.mpr ⟨y, h2, e.symm⟩)).elim
    · subst h2; exact (hn.1 (List.mem_map.mpr ⟨x, h1, e⟩)).elim
    · exact ih hn.2 h1 h2

/-- a dict of texts against its like -/
theorem CmpOk.ne_tdct_same {al : List (List Int × Str)} : CmpOk Γ .NotEq (dtd (al.map fun x => (x.1, .str x.2))) (dtd (al.map fun x => (x.1, .str x.2))) false := fun g σ s va vb a ra rb => by
  obtain ⟨x, xs, rfl, zx, hs, hm, e, zk, rs⟩ := ra
  obtain ⟨y, ys, rfl, zy, hs2, hm2, e2, zk2, rs2⟩ := rb
  simp only [List.map_map, Function.comp_def] at e e2 rs rs2
  have hu := a.ok.un
  have hn : (xs.map (·.1)).Nodup := by obtain ⟨_, _, _, _, _, _, _, _, h⟩ := hm; exact h
  have hn2 : (ys.map (·.1)).Nodup := by obtain ⟨_, _, _, _, _, _, _, _, h⟩ := hm2; exact h
  refine dict_neH (tupleKind_room_in1 (by lia)) (by lia) hs hs2 hm hm2 ?_ (fun p hp => ?_) (PR.pure fun _ _ => rfl)
  · have h1 := congrArg List.length e
    have h2 := congrArg List.length e2
    simp at h1 h2; lia
  · obtain ⟨q, hq, e3, rq⟩ := reps_zip (f := fun x => D.str x.2) e rs p hp
    have : p.1 ∈ ys.map (·.1) := by rw [e2, ← e3]; exact List.mem_map.mpr ⟨q, hq, rfl⟩
    obtain ⟨p', hp', e4⟩ := List.mem_map.mp this
    obtain ⟨q', hq', e5, rq'⟩ := reps_zip (f := fun x => D.str x.2) e2 rs2 p' hp'
    have : q = q' := nodup_fst (by rw [← e]; exact hn) hq hq' (by rw [e3, e5, e4])
    subst this
    obtain ⟨t1, h1⟩ := rq
    obtain ⟨t2, h2⟩ := rq'
    refine ⟨p'.2, by rw [← e4]; exact atKey_of_mem hn2 hp', ?_⟩
    rw [h1, h2]
    have := keq_flat (A := Γ.A.in1) (s := s) (PyProof.V.Flat.str q.2 t1) (PyProof.V.Flat.str q.2 t2)
    simpa [PyData.eqv] using this

theorem valueAt_of_mem {xs : List (Str × Value)} (hn : (xs.map (·.1)).Nodup) {x : Str × Value} (hx : x ∈ xs) : valueAt xs x.1 = some x.2 := by
  obtain ⟨i, hi⟩ := List.mem_iff_getElem?.mp hx
  exact valueAt_of_get hn hi
theorem reps_zipS {h : Heap} {Z : Addr → Prop} {f : Str × List Int → D} : ∀ {al : List (Str × List Int)} {xs : List (Str × Value)}, xs.map (·.1) = al.map (·.1) → Reps Γ.toWd h Z (al.map f) (xs.map (·.2)) →
    ∀ x ∈ xs, ∃ y ∈ al, y.1 = x.1 ∧ Rep Γ.toWd h Z (f y) x.2
  | [], [], _, _, x, hx => nomatch hx
  | [], _ :: _, e, _, _, _ => by simp at e
  | _ :: _, [], e, _, _, _ => by simp at e
  | y :: al, x :: xs, e, r, z, hz => by
    simp only [List.map_cons, List.cons.injEq] at e
    simp only [List.map_cons] at r
    unfold Reps at r; obtain ⟨v, ws, e2, r1, r2⟩ := r
    simp only [List.cons.injEq] at e2
    obtain ⟨e3, rfl⟩ := e2
    rcases List.mem_cons.mp hz with rfl | q
    · exact ⟨y, List.mem_cons_self, e.1.symm, by rw [e3]; exact r1⟩
    · obtain ⟨y', h1, h2, h3⟩ := reps_zipS e.2 r2 z q
      exact ⟨y', List.mem_cons_of_mem _ h1, h2, h3⟩
theorem reads_key {h : Heap} {Z : Addr → Prop} {k : List Int} {v : Value} (r : Rep Γ.toWd h Z (dkey k) v) : ∃ as, Reads h v (pkey k) as := by
  unfold dkey Rep at r
  obtain ⟨a, us, rfl, za, ⟨o, e, c, m, d⟩, rs⟩ := r
  exact ⟨_, reads_tuple_at e c d (reads_ints rs)⟩
theorem shaped_key (k : List Int) : SeqAt.shaped (pkey k) = true := by
  unfold pkey SeqAt.shaped
  rw [PyData.canLay0, lay_ints]
  simp [PyData.depth, depth_ints]
theorem eqv_key (k : List Int) : PyData.eqv (pkey k) (pkey k) = true := by
  unfold pkey
  rw [PyData.eqv, eqv_ints]; simp

/-- a dict of keys by texts against its like -/
theorem CmpOk.ne_sdct_same {al : List (Str × List Int)} : CmpOk Γ .NotEq (dsd (al.map fun x => (x.1, dkey x.2))) (dsd (al.map fun x => (x.1, dkey x.2))) false := fun g σ s va vb a ra rb => by
  obtain ⟨x, xs, rfl, zx, hs, hm, e, rs⟩ := ra
  obtain ⟨y, ys, rfl, zy, hs2, hm2, e2, rs2⟩ := rb
  simp only [List.map_map, Function.comp_def] at e e2 rs rs2
  have hu := a.ok.un
  have hn : (xs.map (·.1)).Nodup := by obtain ⟨_, _, _, _, _, _, _, _, h⟩ := hm; exact h
  have hn2 : (ys.map (·.1)).Nodup := by obtain ⟨_, _, _, _, _, _, _, _, h⟩ := hm2; exact h
  have hl : xs.length = ys.length := by
    have h1 := congrArg List.length e
    have h2 := congrArg List.length e2
    simp at h1 h2; lia
  have hits : ∀ p ∈ xs, ∃ q, valueAt ys p.1 = some q ∧ SeqAt.EqAt Γ.A.in1 s p.2 q true := fun p hp => by
    obtain ⟨q, hq, e3, rq⟩ := reps_zipS (f := fun x => dkey x.2) e rs p hp
    have : p.1 ∈ ys.map (·.1) := by rw [e2, ← e3]; exact List.mem_map.mpr ⟨q, hq, rfl⟩
    obtain ⟨p', hp', e4⟩ := List.mem_map.mp this
    obtain ⟨q', hq', e5, rq'⟩ := reps_zipS (f := fun x => dkey x.2) e2 rs2 p' hp'
    have : q = q' := nodup_fst (by rw [← e]; exact hn) hq hq' (by rw [e3, e5, e4])
    subst this
    obtain ⟨as, h1⟩ := reads_key rq
    obtain ⟨bs, h2⟩ := reads_key rq'
    refine ⟨p'.2, by rw [← e4]; exact valueAt_of_mem hn2 hp', ?_⟩
    have h3 := keq_at (A := Γ.A) h1 h2 (shaped_key _) (shaped_key _) (by show Γ.A.units + 1 + 64 < cLine; lia)
    rw [eqv_key] at h3
    exact h3
  have kh : KeqHits Γ.A.in1 s ys xs true := by
    clear hn hl e rs hm
    induction xs with
    | nil => exact .nil
    | cons p r ih =>
      obtain ⟨q, h1, h2⟩ := hits p List.mem_cons_self
      exact .hit (e := true) (b := true) h1 h2 (ih fun z hz => hits z (List.mem_cons_of_mem _ hz))
  refine keq_ne (r := true) hs hs2 hm hm2 (by lia) (fun _ => kh) ?_
  have : (!(xs.length == ys.length && true)) = false := by rw [hl]; simp
  rw [this]
  exact PR.pure fun _ _ => rfl
end
end Mine

namespace Mine

theorem typeCall_zip_3 (a b c : Value) : checkTypeCall "zip" ⟨[a, b, c], []⟩ = pure () := by kernel_rfl
theorem newCall_zip_3 (a b c : Value) : checkBuiltinCall "zip.__new__" ⟨[.type "zip", a, b, c], []⟩ = pure () := by kernel_rfl
theorem args_object_init_4 (a b c d : Value) : argsOk "object.__init__" ⟨[a, b, c, d], []⟩ := by
  unfold argsOk; rw [PySem.signature?_of (id := "object.__init__") (n := ['_', '_', 't', 'i', 'n', 'i', '_', '_']) (o := ['t', 'c', 'e', 'j', 'b', 'o']) (by kernel_rfl) PySem.F.owner_object]; kernel_rfl

abbrev IsTri (h : Heap) (T : Addr) (a b c : Value) : Prop := h.get? T = some { cls := .type "tuple", data := .seq #[a, b, c] }

structure Z3 (h : Heap) (n l1 l2 l3 : Nat) (xs ys us : Array Value) (f0 p q r : Value) (k1 k2 k3 : Nat) : Prop where
  z : IsZip h (n + 5) (n + 3) (n + 4) f0
  TI : IsTri h (n + 3) (.ref n) (.ref (n + 1)) (.ref (n + 2))
  TO : IsTri h (n + 4) p q r
  i1 : h.IsListIter n l1 k1
  i2 : h.IsListIter (n + 1) l2 k2
  i3 : h.IsListIter (n + 2) l3 k3
  a1 : h.IsList l1 xs
  a2 : h.IsList l2 ys
  a3 : h.IsList l3 us
  b1 : l1 < n
  b2 : l2 < n
  b3 : l3 < n

section
variable {h h' : Heap} {n l1 l2 l3 : Nat} {xs ys us : Array Value} {f0 p q r : Value} {k1 k2 k3 : Nat}
theorem Z3.kept (Z : Z3 h n l1 l2 l3 xs ys us f0 p q r k1 k2 k3) (hk : Kept h h') : Z3 h' n l1 l2 l3 xs ys us f0 p q r k1 k2 k3 :=
  ⟨hk _ _ Z.z, hk _ _ Z.TI, hk _ _ Z.TO, Z.i1.at fun o e => hk _ _ e, Z.i2.at fun o e => hk _ _ e, Z.i3.at fun o e => hk _ _ e, Z.a1.at fun o e => hk _ _ e, Z.a2.at fun o e => hk _ _ e, Z.a3.at fun o e => hk _ _ e, Z.b1, Z.b2, Z.b3⟩
theorem Z3.setZ {f : Value} (Z : Z3 h n l1 l2 l3 xs ys us f0 p q r k1 k2 k3) (e : IsZip h' (n + 5) (n + 3) (n + 4) f) (hk : ∀ (b : Nat) o, b ≠ n + 5 → h.get? b = some o → h'.get? b = some o) : Z3 h' n l1 l2 l3 xs ys us f p q r k1 k2 k3 := by
  have c1 := Z.b1
  have c2 := Z.b2
  have c3 := Z.b3
  exact ⟨e, hk _ _ (by lia) Z.TI, hk _ _ (by lia) Z.TO, Z.i1.at fun o e => hk _ _ (by lia) e, Z.i2.at fun o e => hk _ _ (by lia) e, Z.i3.at fun o e => hk _ _ (by lia) e, Z.a1.at fun o e => hk _ _ (by lia) e, Z.a2.at fun o e => hk _ _ (by lia) e, Z.a3.at fun o e => hk _ _ (by lia) e, Z.b1, Z.b2, Z.b3⟩
theorem Z3.setO {p' q' r' : Value} (Z : Z3 h n l1 l2 l3 xs ys us f0 p q r k1 k2 k3) (e : IsTri h' (n + 4) p' q' r') (hk : ∀ (b : Nat) o, b ≠ n + 4 → h.get? b = some o → h'.get? b = some o) : Z3 h' n l1 l2 l3 xs ys us f0 p' q' r' k1 k2 k3 := by
  have c1 := Z.b1
  have c2 := Z.b2
  have c3 := Z.b3
  exact ⟨hk _ _ (by lia) Z.z, hk _ _ (by lia) Z.TI, e, Z.i1.at fun o e => hk _ _ (by lia) e, Z.i2.at fun o e => hk _ _ (by lia) e, Z.i3.at fun o e => hk _ _ (by lia) e, Z.a1.at fun o e => hk _ _ (by lia) e, Z.a2.at fun o e => hk _ _ (by lia) e, Z.a3.at fun o e => hk _ _ (by lia) e, Z.b1, Z.b2, Z.b3⟩
theorem Z3.set1 {k : Nat} (Z : Z3 h n l1 l2 l3 xs ys us f0 p q r k1 k2 k3) (e : h'.IsListIter n l1 k) (hk : ∀ (b : Nat) o, b ≠ n → h.get? b = some o → h'.get? b = some o) : Z3 h' n l1 l2 l3 xs ys us f0 p q r k k2 k3 := by
  have c1 := Z.b1
  have c2 := Z.b2
  have c3 := Z.b3
  exact ⟨hk _ _ (by lia) Z.z, hk _ _ (by lia) Z.TI, hk _ _ (by lia) Z.TO, e, Z.i2.at fun o e => hk _ _ (by lia) e, Z.i3.at fun o e => hk _ _ (by lia) e, Z.a1.at fun o e => hk _ _ (by lia) e, Z.a2.at fun o e => hk _ _ (by lia) e, Z.a3.at fun o e => hk _ _ (by lia) e, Z.b1, Z.b2, Z.b3⟩
theorem Z3.set2 {k : Nat} (Z : Z3 h n l1 l2 l3 xs ys us f0 p q r k1 k2 k3) (e : h'.IsListIter (n + 1) l2 k) (hk : ∀ (b : Nat) o, b ≠ n + 1 → h.get? b = some o → h'.get? b = some o) : Z3 h' n l1 l2 l3 xs ys us f0 p q r k1 k k3 := by
  have c1 := Z.b1
  have c2 := Z.b2
  have c3 := Z.b3
  exact ⟨hk _ _ (by lia) Z.z, hk _ _ (by lia) Z.TI, hk _ _ (by lia) Z.TO, Z.i1.at fun o e => hk _ _ (by lia) e, e, Z.i3.at fun o e => hk _ _ (by lia) e, Z.a1.at fun o e => hk _ _ (by lia) e, Z.a2.at fun o e => hk _ _ (by lia) e, Z.a3.at fun o e => hk _ _ (by lia) e, Z.b1, Z.b2, Z.b3⟩
theorem Z3.set3 {k : Nat} (Z : Z3 h n l1 l2 l3 xs ys us f0 p q r k1 k2 k3) (e : h'.IsListIter (n + 2) l3 k) (hk : ∀ (b : Nat) o, b ≠ n + 2 → h.get? b = some o → h'.get? b = some o) : Z3 h' n l1 l2 l3 xs ys us f0 p q r k1 k2 k := by
  have c1 := Z.b1
  have c2 := Z.b2
  have c3 := Z.b3
  exact ⟨hk _ _ (by lia) Z.z, hk _ _ (by lia) Z.TI, hk _ _ (by lia) Z.TO, Z.i1.at fun o e => hk _ _ (by lia) e, Z.i2.at fun o e => hk _ _ (by lia) e, e, Z.a1.at fun o e => hk _ _ (by lia) e, Z.a2.at fun o e => hk _ _ (by lia) e, Z.a3.at fun o e => hk _ _ (by lia) e, Z.b1, Z.b2, Z.b3⟩
end
/-- what may change -/
def OffZ (n : Nat) (h h' : Heap) : Prop := ∀ (b : Nat) o, b ≠ n + 5 → b ≠ n + 4 → b ≠ n → b ≠ n + 1 → b ≠ n + 2 → h.get? b = some o → h'.get? b = some o
theorem OffZ.trans {n : Nat} {h h' h'' : Heap} (a : OffZ n h h') (b : OffZ n h' h'') : OffZ n h h'' := fun c o c1 c2 c3 c4 c5 e => b c o c1 c2 c3 c4 c5 (a c o c1 c2 c3 c4 c5 e)
theorem OffZ.kept {n : Nat} {h h' : Heap} (a : Kept h h') : OffZ n h h' := fun c o _ _ _ _ _ e => a c o e
theorem OffZ.at5 {n : Nat} {h h' : Heap} (a : ∀ (b : Nat) o, b ≠ n + 5 → h.get? b = some o → h'.get? b = some o) : OffZ n h h' := fun c o c1 _ _ _ _ e => a c o c1 e
theorem OffZ.at4 {n : Nat} {h h' : Heap} (a : ∀ (b : Nat) o, b ≠ n + 4 → h.get? b = some o → h'.get? b = some o) : OffZ n h h' := fun c o _ c1 _ _ _ e => a c o c1 e
theorem OffZ.at0 {n : Nat} {h h' : Heap} (a : ∀ (b : Nat) o, b ≠ n → h.get? b = some o → h'.get? b = some o) : OffZ n h h' := fun c o _ _ c1 _ _ e => a c o c1 e
theorem OffZ.at1 {n : Nat} {h h' : Heap} (a : ∀ (b : Nat) o, b ≠ n + 1 → h.get? b = some o → h'.get? b = some o) : OffZ n h h' := fun c o _ _ _ c1 _ e => a c o c1 e
theorem OffZ.at2 {n : Nat} {h h' : Heap} (a : ∀ (b : Nat) o, b ≠ n + 2 → h.get? b = some o → h'.get? b = some o) : OffZ n h h' := fun c o _ _ _ _ c1 e => a c o c1 e

section
variable {prog : Program} {w : World} {A : Around} {E : Value → Shared → Prop} {s : Shared}
variable {n l1 l2 l3 : Nat} {xs ys us : Array Value} {f0 p q r : Value} {k1 k2 k3 : Nat}

theorem updTri {T : Nat} {a b c x : Value} {k : Nat} {Q : Unit → Shared → Prop} (hT : IsTri s.heap T a b c)
    (h : ∀ h', h'.get? T = some { cls := .type "tuple", data := .seq ((#[a, b, c] : Array Value).setIfInBounds k x) } → Heap.SameBut T s.heap h' → Q () { s with heap := h' }) :
    wpAny (model prog w) A (updateSeq T (·.setIfInBounds k x)) Q E s := by
  refine wpAny_updateSeq hT rfl (h _ ?_ (Heap.SameBut.update ..))
  rw [Heap.get?_update_self _ hT rfl]
  simp [Obj.mapSeq]

theorem zip3_item {x y u : Value} {Q : Value → Shared → Prop} (Z : Z3 s.heap n l1 l2 l3 xs ys us .none p q r k1 k2 k3) (hx : xs[k1]? = some x) (hy : ys[k2]? = some y) (hu : us[k3]? = some u)
    (hQ : ∀ h', Z3 h' n l1 l2 l3 xs ys us (rawInt s.heap.objs.size) x y u (k1 + 1) (k2 + 1) (k3 + 1) → IsTri h' s.heap.objs.size x y u → OffZ n s.heap h' → Q (.ref s.heap.objs.size) { s with heap := h' }) :
    wpAny (model prog w) A (Builtin.«zip.__next__» ⟨[.ref (n + 5)], []⟩) (fun fin s' => ∃ v, fin = .done (.ret v) ∧ Q v s') E s := by
  show wpAny _ _ (field (.ref (n + 5)) 2 >>= _) _ _ _
  refine wpAny_bind (wpAny_field Z.z rfl (x := .bool false) rfl ?_)
  show wpAny _ _ (field (.ref (n + 5)) 3 >>= _) _ _ _
  refine wpAny_bind (wpAny_field Z.z rfl (x := .ref (n + 3)) rfl ?_)
  refine wpAny_bind (wpAny_seqItems Z.TI rfl ?_)
  show wpAny _ _ (Builtin.SmallTypes.ownedTupleIsFree (.ref (n + 5)) >>= _) _ _ _
  refine wpAny_bind ?_
  unfold Builtin.SmallTypes.ownedTupleIsFree
  refine wpAny_bind (wpAny_field Z.z rfl (x := .none) rfl (wpAny_pure ?_))
  simp only [if_true]
  refine wpAny_bind (wpAny_rule ?_)
  refine wpAny_bind (wpAny_field Z.z rfl (x := .ref (n + 4)) rfl ?_)
  refine wpAny_bind (wpAny_setField_rec Z.z (by simp) fun h₁ hz₁ hs₁ => ?_)
  have Z₁ := Z.setZ (f := .ellipsis) hz₁ (fun b o hb e => hs₁.extBut b o hb e)
  have O₁ : OffZ n s.heap h₁ := .at5 fun b o hb e => hs₁.extBut b o hb e
  have sz₁ := hs₁.1
  refine wpAny_bind ?_
  simp only [List.zipIdx_cons, List.zipIdx_nil, List.forIn_cons, List.forIn_nil]
  -- the first
  refine wpAny_bind (wpAny_bind (wpAny_onRaise ?_))
  show wpAny _ _ (Builtin.SmallTypes.nextOf (.ref n) >>= _) _ _ _
  refine wpAny_bind (wpAny_nextOf_list_item Z₁.i1 Z₁.a1 hx fun h₂ e₂ hs₂ => wpAny_pure ?_)
  have Z₂ := Z₁.set1 e₂ (fun b o hb e => hs₂.extBut b o hb e)
  have O₂ := O₁.trans (.at0 fun b o hb e => hs₂.extBut b o hb e)
  have sz₂ := hs₂.1
  refine wpAny_bind (wpAny_seqItems Z₂.TO rfl ?_)
  refine wpAny_bind (updTri Z₂.TO fun h₃ e₃ hs₃ => ?_)
  have Z₃ := Z₂.setO (p' := x) (q' := q) (r' := r) e₃ (fun b o hb e => hs₃.extBut b o hb e)
  have O₃ := O₂.trans (.at4 fun b o hb e => hs₃.extBut b o hb e)
  have sz₃ := hs₃.1
  refine wpAny_bind (wpAny_letGo (wpAny_pure ?_))
  -- the second
  refine wpAny_bind (wpAny_bind (wpAny_onRaise ?_))
  show wpAny _ _ (Builtin.SmallTypes.nextOf (.ref (n + 1)) >>= _) _ _ _
  refine wpAny_bind (wpAny_nextOf_list_item Z₃.i2 Z₃.a2 hy fun h₄ e₄ hs₄ => wpAny_pure ?_)
  have Z₄ := Z₃.set2 e₄ (fun b o hb e => hs₄.extBut b o hb e)
  have O₄ := O₃.trans (.at1 fun b o hb e => hs₄.extBut b o hb e)
  have sz₄ := hs₄.1
  refine wpAny_bind (wpAny_seqItems Z₄.TO rfl ?_)
  refine wpAny_bind (updTri Z₄.TO fun h₅ e₅ hs₅ => ?_)
  have Z₅ := Z₄.setO (p' := x) (q' := y) (r' := r) e₅ (fun b o hb e => hs₅.extBut b o hb e)
  have O₅ := O₄.trans (.at4 fun b o hb e => hs₅.extBut b o hb e)
  have sz₅ := hs₅.1
  refine wpAny_bind (wpAny_letGo (wpAny_pure ?_))
  -- the third
  refine wpAny_bind (wpAny_bind (wpAny_onRaise ?_))
  show wpAny _ _ (Builtin.SmallTypes.nextOf (.ref (n + 2)) >>= _) _ _ _
  refine wpAny_bind (wpAny_nextOf_list_item Z₅.i3 Z₅.a3 hu fun h₆ e₆ hs₆ => wpAny_pure ?_)
  have Z₆ := Z₅.set3 e₆ (fun b o hb e => hs₆.extBut b o hb e)
  have O₆ := O₅.trans (.at2 fun b o hb e => hs₆.extBut b o hb e)
  have sz₆ := hs₆.1
  refine wpAny_bind (wpAny_seqItems Z₆.TO rfl ?_)
  refine wpAny_bind (updTri Z₆.TO fun h₇ e₇ hs₇ => ?_)
  have Z₇ := Z₆.setO (p' := x) (q' := y) (r' := u) e₇ (fun b o hb e => hs₇.extBut b o hb e)
  have O₇ := O₆.trans (.at4 fun b o hb e => hs₇.extBut b o hb e)
  have sz₇ := hs₇.1
  refine wpAny_bind (wpAny_letGo (wpAny_pure (wpAny_pure ?_)))
  refine wpAny_bind (wpAny_seqItems Z₇.TO rfl ?_)
  refine wpAny_bind (wpAny_newTuple ?_)
  have hsz : h₇.objs.size = s.heap.objs.size := by rw [sz₇, sz₆, sz₅, sz₄, sz₃, sz₂, sz₁]
  have kp := kept_push h₇ { cls := .type "tuple", data := .seq #[x, y, u] }
  have Z₈ := Z₇.kept kp
  have O₈ := O₇.trans (.kept kp)
  have hlt : n + 5 < h₇.objs.size := Heap.lt_size Z₇.z
  show wpAny _ _ (Builtin.SmallTypes.ownedTupleHandOut (.ref (n + 5)) (.ref h₇.objs.size) >>= _) _ _ _
  refine wpAny_bind ?_
  unfold Builtin.SmallTypes.ownedTupleHandOut
  refine wpAny_bind (wpAny_setField_rec Z₈.z (by simp) fun h₉ hz₉ hs₉ => ?_)
  have Z₉ := Z₈.setZ (f := rawInt h₇.objs.size) hz₉ (fun b o hb e => hs₉.extBut b o hb e)
  have O₉ := O₈.trans (.at5 fun b o hb e => hs₉.extBut b o hb e)
  refine wpAny_setField_rec Z₉.z (by simp) fun h₀ hz₀ hs₀ => ?_
  have Z₀ := Z₉.setZ (f := rawInt h₇.objs.size) hz₀ (fun b o hb e => hs₀.extBut b o hb e)
  have O₀ := O₉.trans (.at5 fun b o hb e => hs₀.extBut b o hb e)
  have hT : IsTri h₀ h₇.objs.size x y u := hs₀.extBut _ _ (Nat.ne_of_gt hlt) (hs₉.extBut _ _ (Nat.ne_of_gt hlt) (Heap.get?_push_size _ rfl))
  rw [hsz] at Z₀ hT
  refine wpAny_pure ⟨_, rfl, ?_⟩
  show Q (.ref h₇.objs.size) _
  rw [hsz]
  exact hQ h₀ Z₀ hT O₀

theorem zip3_end {Q : Fin → Shared → Prop} (hh : A.handled = none) (Z : Z3 s.heap n l1 l2 l3 xs ys us .none p q r k1 k2 k3) (hend : xs[k1]? = none ∨ ys[k2]? = none ∨ us[k3]? = none)
    (hE : ∀ h' e, OffZ n s.heap h' → (∃ o, h'.get? e = some o ∧ o.cls = .type "StopIteration") → E (.ref e) { s with heap := h' }) :
    wpAny (model prog w) A (Builtin.«zip.__next__» ⟨[.ref (n + 5)], []⟩) Q E s := by
  show wpAny _ _ (field (.ref (n + 5)) 2 >>= _) _ _ _
  refine wpAny_bind (wpAny_field Z.z rfl (x := .bool false) rfl ?_)
  show wpAny _ _ (field (.ref (n + 5)) 3 >>= _) _ _ _
  refine wpAny_bind (wpAny_field Z.z rfl (x := .ref (n + 3)) rfl ?_)
  refine wpAny_bind (wpAny_seqItems Z.TI rfl ?_)
  show wpAny _ _ (Builtin.SmallTypes.ownedTupleIsFree (.ref (n + 5)) >>= _) _ _ _
  refine wpAny_bind ?_
  unfold Builtin.SmallTypes.ownedTupleIsFree
  refine wpAny_bind (wpAny_field Z.z rfl (x := .none) rfl (wpAny_pure ?_))
  simp only [if_true]
  refine wpAny_bind (wpAny_rule ?_)
  refine wpAny_bind (wpAny_field Z.z rfl (x := .ref (n + 4)) rfl ?_)
  refine wpAny_bind (wpAny_setField_rec Z.z (by simp) fun h₁ hz₁ hs₁ => ?_)
  have Z₁ := Z.setZ (f := .ellipsis) hz₁ (fun b o hb e => hs₁.extBut b o hb e)
  have O₁ : OffZ n s.heap h₁ := .at5 fun b o hb e => hs₁.extBut b o hb e
  have last : ∀ (h₂ : Heap) (e : Addr), OffZ n s.heap h₂ → IsZip h₂ (n + 5) (n + 3) (n + 4) .ellipsis → (∃ o, h₂.get? e = some o ∧ o.cls = .type "StopIteration") →
      wpAny (model prog w) A (setField (.ref (n + 5)) 0 .none) (fun _ s' => E (.ref e) s') E { s with heap := h₂ } := fun h₂ e O₂ z₂ ⟨oe, hoe, hce⟩ => by
    have hez : e ≠ (n + 5 : Nat) := fun x => by subst x; rw [z₂] at hoe; cases hoe; simp at hce
    exact wpAny_setField_rec z₂ (by simp) fun h₃ _ hs₃ => hE h₃ e (O₂.trans (.at5 fun b o hb e => hs₃.extBut b o hb e)) ⟨oe, hs₃.extBut _ _ hez hoe, hce⟩
  refine wpAny_bind ?_
  simp only [List.zipIdx_cons, List.zipIdx_nil, List.forIn_cons, List.forIn_nil]
  refine wpAny_bind (wpAny_bind (wpAny_onRaise ?_))
  show wpAny _ _ (Builtin.SmallTypes.nextOf (.ref n) >>= _) _ _ _
  cases hx : xs[k1]? with
  | none =>
    refine wpAny_bind (wpAny_nextOf_list_end hh Z₁.i1 Z₁.a1 hx fun h₂ e hs₂ he => ?_)
    exact last h₂ e (O₁.trans (.at0 fun b o hb e => hs₂ b o hb e)) (hs₂ _ _ (by show n + 5 ≠ n; lia) Z₁.z) he
  | some x =>
    refine wpAny_bind (wpAny_nextOf_list_item Z₁.i1 Z₁.a1 hx fun h₂ e₂ hs₂ => wpAny_pure ?_)
    have Z₂ := Z₁.set1 e₂ (fun b o hb e => hs₂.extBut b o hb e)
    have O₂ := O₁.trans (.at0 fun b o hb e => hs₂.extBut b o hb e)
    refine wpAny_bind (wpAny_seqItems Z₂.TO rfl ?_)
    refine wpAny_bind (updTri Z₂.TO fun h₃ e₃ hs₃ => ?_)
    have Z₃ := Z₂.setO (p' := x) (q' := q) (r' := r) e₃ (fun b o hb e => hs₃.extBut b o hb e)
    have O₃ := O₂.trans (.at4 fun b o hb e => hs₃.extBut b o hb e)
    refine wpAny_bind (wpAny_letGo (wpAny_pure ?_))
    refine wpAny_bind (wpAny_bind (wpAny_onRaise ?_))
    show wpAny _ _ (Builtin.SmallTypes.nextOf (.ref (n + 1)) >>= _) _ _ _
    cases hy : ys[k2]? with
    | none =>
      refine wpAny_bind (wpAny_nextOf_list_end hh Z₃.i2 Z₃.a2 hy fun h₄ e hs₄ he => ?_)
      exact last h₄ e (O₃.trans (.at1 fun b o hb e => hs₄ b o hb e)) (hs₄ _ _ (by show n + 5 ≠ n + 1; lia) Z₃.z) he
    | some y =>
      refine wpAny_bind (wpAny_nextOf_list_item Z₃.i2 Z₃.a2 hy fun h₄ e₄ hs₄ => wpAny_pure ?_)
      have Z₄ := Z₃.set2 e₄ (fun b o hb e => hs₄.extBut b o hb e)
      have O₄ := O₃.trans (.at1 fun b o hb e => hs₄.extBut b o hb e)
      refine wpAny_bind (wpAny_seqItems Z₄.TO rfl ?_)
      refine wpAny_bind (updTri Z₄.TO fun h₅ e₅ hs₅ => ?_)
      have Z₅ := Z₄.setO (p' := x) (q' := y) (r' := r) e₅ (fun b o hb e => hs₅.extBut b o hb e)
      have O₅ := O₄.trans (.at4 fun b o hb e => hs₅.extBut b o hb e)
      refine wpAny_bind (wpAny_letGo (wpAny_pure ?_))
      refine wpAny_bind (wpAny_bind (wpAny_onRaise ?_))
      show wpAny _ _ (Builtin.SmallTypes.nextOf (.ref (n + 2)) >>= _) _ _ _
      have hu : us[k3]? = none := by
        rcases hend with x | x | x
        · rw [hx] at x; cases x
        · rw [hy] at x; cases x
        · exact x
      refine wpAny_bind (wpAny_nextOf_list_end hh Z₅.i3 Z₅.a3 hu fun h₆ e hs₆ he => ?_)
      exact last h₆ e (O₅.trans (.at2 fun b o hb e => hs₆ b o hb e)) (hs₆ _ _ (by show n + 5 ≠ n + 2; lia) Z₅.z) he

theorem zip3_next_item {x y u : Value} {Q : Option Value → Shared → Prop} (Z : Z3 s.heap n l1 l2 l3 xs ys us .none p q r k1 k2 k3) (hx : xs[k1]? = some x) (hy : ys[k2]? = some y) (hu : us[k3]? = some u)
    (hQ : ∀ h', Z3 h' n l1 l2 l3 xs ys us (rawInt s.heap.objs.size) x y u (k1 + 1) (k2 + 1) (k3 + 1) → IsTri h' s.heap.objs.size x y u → OffZ n s.heap h' → Q (some (.ref s.heap.objs.size)) { s with heap := h' }) :
    wpAny (model prog w) A (pyNext (.ref (n + 5))) Q E s := by
  have hT : s.TypeIs (.ref (n + 5)) "zip" := ⟨_, Z.z, rfl⟩
  unfold pyNext
  exact wpAny_bind (wpAny_attempt (wpAny_callSpecial?_slot (name := Str.ofString "__next__") hT F.slot_zip_next
    (wpAny_call_entry F.slot_zip_next hT F.entry_zip_next
      (zip3_item Z hx hy hu fun h' a1 a2 a3 => wpAny_pure (hQ h' a1 a2 a3)) (F.args_zip_next_1 _))))
theorem zip3_next_end {Q : Option Value → Shared → Prop} (hh : A.handled = none) (Z : Z3 s.heap n l1 l2 l3 xs ys us .none p q r k1 k2 k3) (hend : xs[k1]? = none ∨ ys[k2]? = none ∨ us[k3]? = none)
    (hQ : ∀ h', OffZ n s.heap h' → Q none { s with heap := h' }) : wpAny (model prog w) A (pyNext (.ref (n + 5))) Q E s := by
  have hT : s.TypeIs (.ref (n + 5)) "zip" := ⟨_, Z.z, rfl⟩
  unfold pyNext
  refine wpAny_bind (wpAny_attempt (wpAny_callSpecial?_slot (name := Str.ofString "__next__") hT F.slot_zip_next
    (wpAny_call_entry F.slot_zip_next hT F.entry_zip_next (zip3_end hh Z hend fun h' e hk he => ?_) (F.args_zip_next_1 _))))
  obtain ⟨o, ho, hc⟩ := he
  refine wpAny_bind (wpAny_isInstance (T := "StopIteration") (b := true) ⟨o, ho, hc⟩ isSubtype_stop ?_)
  exact wpAny_pure (hQ _ hk)

abbrev z3H1 (h : Heap) (l1 : Nat) : Heap := h.push { cls := .type "list_iterator", data := .fields #[.ref l1, .int 0 0] }
abbrev z3H2 (h : Heap) (l1 l2 : Nat) : Heap := (z3H1 h l1).push { cls := .type "list_iterator", data := .fields #[.ref l2, .int 0 0] }
abbrev z3H3 (h : Heap) (l1 l2 l3 : Nat) : Heap := (z3H2 h l1 l2).push { cls := .type "list_iterator", data := .fields #[.ref l3, .int 0 0] }
abbrev z3H4 (h : Heap) (l1 l2 l3 : Nat) : Heap := (z3H3 h l1 l2 l3).push { cls := .type "tuple", data := .seq #[.ref h.objs.size, .ref (z3H1 h l1).objs.size, .ref (z3H2 h l1 l2).objs.size] }
abbrev z3H5 (h : Heap) (l1 l2 l3 : Nat) : Heap := (z3H4 h l1 l2 l3).push { cls := .type "tuple", data := .seq #[.none, .none, .none] }
abbrev z3H6 (h : Heap) (l1 l2 l3 : Nat) : Heap := (z3H5 h l1 l2 l3).push { cls := .type "zip", data := .fields #[.none, .bool false, .bool false, .ref (z3H3 h l1 l2 l3).objs.size, .ref (z3H4 h l1 l2 l3).objs.size] }

set_option maxHeartbeats 4000000 in
theorem meets_zip3 (l1 l2 l3 : Nat) (xs ys us : Array Value) :
    Meets (Builtin.«zip.__new__» ⟨[.type "zip", .ref l1, .ref l2, .ref l3], []⟩) (fun _ R s => s.heap.IsList l1 xs ∧ s.heap.IsList l2 ys ∧ s.heap.IsList l3 us ∧
      R (.ok (.ret (.ref (z3H5 s.heap l1 l2 l3).objs.size))) { s with heap := z3H6 s.heap l1 l2 l3 }) :=
  .of_wp fun prog w A R s h => by
    obtain ⟨hp, g, d, tk, os⟩ := s; obtain ⟨hl1, hl2, hl3, h⟩ := h
    have hsub := sub_zip
    have hL1 : Heap.IsList (Shared.heap ⟨hp, g, d, tk, os⟩) l1 xs := hl1
    have hL2 : Heap.IsList (Shared.heap ⟨hp.push { cls := .type "list_iterator", data := .fields #[.ref l1, .int 0 0] }, g, d, tk, os⟩) l2 ys := Heap.IsList.push hl2 _
    have hL3 : Heap.IsList (Shared.heap ⟨(hp.push { cls := .type "list_iterator", data := .fields #[.ref l1, .int 0 0] }).push { cls := .type "list_iterator", data := .fields #[.ref l2, .int 0 0] }, g, d, tk, os⟩) l3 us := Heap.IsList.push (Heap.IsList.push hl3 _) _
    wp_walk using wpAny_pyIter_list hL1, wpAny_pyIter_list hL2, wpAny_pyIter_list hL3
    exact ⟨_, rfl, h⟩

theorem call_zip_3 {Q : Value → Shared → Prop} (hl1 : s.heap.IsList l1 xs) (hl2 : s.heap.IsList l2 ys) (hl3 : s.heap.IsList l3 us)
    (h : ∀ h', Z3 h' s.heap.objs.size l1 l2 l3 xs ys us .none .none .none .none 0 0 0 → Kept s.heap h' → Q (.ref (s.heap.objs.size + 5)) { s with heap := h' }) :
    wpAny (model prog w) A (call (.type "zip") [.ref l1, .ref l2, .ref l3]) Q E s := by
  refine callType_new F.called_zip (by decide) (typeCall_zip_3 _ _ _) (newCall_zip_3 _ _ _) (fun obj => args_object_init_4 obj _ _ _) F.entry_zip_new
    (meets_zip3 l1 l2 l3 xs ys us) ⟨hl1, hl2, hl3, ?_⟩
  have z1 : (z3H1 s.heap l1).objs.size = s.heap.objs.size + 1 := Heap.size_push ..
  have z2 : (z3H2 s.heap l1 l2).objs.size = s.heap.objs.size + 2 := by rw [Heap.size_push, z1]
  have z3 : (z3H3 s.heap l1 l2 l3).objs.size = s.heap.objs.size + 3 := by rw [Heap.size_push, z2]
  have z4 : (z3H4 s.heap l1 l2 l3).objs.size = s.heap.objs.size + 4 := by rw [Heap.size_push, z3]
  have z5 : (z3H5 s.heap l1 l2 l3).objs.size = s.heap.objs.size + 5 := by rw [Heap.size_push, z4]
  have k6 : Kept (z3H5 s.heap l1 l2 l3) (z3H6 s.heap l1 l2 l3) := kept_push _ _
  have k5 : Kept (z3H4 s.heap l1 l2 l3) (z3H6 s.heap l1 l2 l3) := fun b o e => k6 b o (kept_push _ _ b o e)
  have k4 : Kept (z3H3 s.heap l1 l2 l3) (z3H6 s.heap l1 l2 l3) := fun b o e => k5 b o (kept_push _ _ b o e)
  have k3 : Kept (z3H2 s.heap l1 l2) (z3H6 s.heap l1 l2 l3) := fun b o e => k4 b o (kept_push _ _ b o e)
  have k2 : Kept (z3H1 s.heap l1) (z3H6 s.heap l1 l2 l3) := fun b o e => k3 b o (kept_push _ _ b o e)
  have k1 : Kept s.heap (z3H6 s.heap l1 l2 l3) := fun b o e => k2 b o (kept_push _ _ b o e)
  have g6 : (z3H6 s.heap l1 l2 l3).get? (z3H5 s.heap l1 l2 l3).objs.size = some _ := Heap.get?_push_size _ rfl
  have g5 : (z3H6 s.heap l1 l2 l3).get? (z3H4 s.heap l1 l2 l3).objs.size = some _ := k6 _ _ (Heap.get?_push_size _ rfl)
  have g4 : (z3H6 s.heap l1 l2 l3).get? (z3H3 s.heap l1 l2 l3).objs.size = some _ := k5 _ _ (Heap.get?_push_size _ rfl)
  have g3 : (z3H6 s.heap l1 l2 l3).get? (z3H2 s.heap l1 l2).objs.size = some _ := k4 _ _ (Heap.get?_push_size _ rfl)
  have g2 : (z3H6 s.heap l1 l2 l3).get? (z3H1 s.heap l1).objs.size = some _ := k3 _ _ (Heap.get?_push_size _ rfl)
  have g1 : (z3H6 s.heap l1 l2 l3).get? s.heap.objs.size = some _ := k2 _ _ (Heap.get?_push_size _ rfl)
  show _ ∧ _
  rw [z3, z4, z5] at g6
  rw [z4] at g5
  rw [z1, z2, z3] at g4
  rw [z2] at g3
  rw [z1] at g2
  rw [z5]
  have lt : ∀ {l : Nat} {v : Array Value}, s.heap.IsList l v → l < s.heap.objs.size := fun x => let ⟨o, e, _⟩ := x; Heap.lt_size e
  exact ⟨⟨_, g6, rfl⟩, h _ ⟨g6, g4, g5, ⟨_, g1, rfl, rfl⟩, ⟨_, g2, rfl, rfl⟩, ⟨_, g3, rfl, rfl⟩, hl1.at fun o e => k1 _ _ e, hl2.at fun o e => k1 _ _ e, hl3.at fun o e => k1 _ _ e, lt hl1, lt hl2, lt hl3⟩ k1⟩
end
end Mine

namespace Mine

theorem assignEach_plain {env : Env} : ∀ {ts : List Expr}, ts.all notStar = true → assignEach ts env = ts.map fun t => (false, assign t env)
  | [], _ => rfl
  | t :: ts, h => by
    simp only [List.all_cons, Bool.and_eq_true] at h
    have ih := assignEach_plain (env := env) h.2
    rw [List.map_cons, ← ih]
    cases t <;> first | rfl | (simp [notStar] at h)
theorem assignEach_len {env : Env} {ts : List Expr} (h : ts.all notStar = true) : (assignEach ts env).length = ts.length := by rw [assignEach_plain h]; simp
theorem assignEach_star {env : Env} {ts : List Expr} (h : ts.all notStar = true) : (assignEach ts env).findIdx? (·.1) = none := by
  rw [assignEach_plain h]; simp [List.findIdx?_eq_none_iff]
theorem assignEach_snd {env : Env} {ts : List Expr} (h : ts.all notStar = true) : (assignEach ts env).map (·.2) = ts.map fun t v => assign t env v := by
  rw [assignEach_plain h]; simp

theorem kept_of_ext {h h' : Heap} (e : Heap.ExtBut h.objs.size h h') : Kept h h' := fun b o q => e b o (Nat.ne_of_lt (Heap.lt_size q)) q

section
variable {Γ : Cx} {E : ExPost} {σ : St} {g : Gh} {s : Shared}


theorem assign_tuple_at {ts : List Expr} {k : Nat} {pos : Pos} {ds : List D} {Q : St → Prop} {T : Addr} {its : Array Value} (ht : ts.all notStar = true) (hl : ts.length = ds.length) (w : WNames Γ ts ds Q σ) (a : At Γ g σ s.heap)
    (hT : s.heap.IsTuple T its) (r : Reps Γ.toWd s.heap g.z ds its.toList) :
    wpAny (model Γ.prog Γ.w) Γ.A (assign (.Tuple ts k pos) Γ.env (.ref T)) (PostA Γ g s Q) NoE s := by
  refine wpAny_assign_Tuple a.ok.hd hT (by rw [assignEach_len ht, hl, ← r.length]; simp) (assignEach_star ht) fun h' hx => ?_
  rw [assignEach_snd ht]
  have hk := kept_of_ext hx
  refine wpAny_mono (assignInOrder_of ts ds w g { s with heap := h' } its.toList (a.move hk) (Reps.mono (fun _ z => z) (fun b o _ e => hk b o e) _ r)) (fun _ s' p => ?_) fun _ _ f => f
  obtain ⟨g2, σ2, h2, tk2, rfl, t2, a2, q2⟩ := p
  exact ⟨g2, σ2, h2, tk2, rfl, (Tr.kept hk).trans t2, a2, q2⟩

/-- a tuple of names as a target -/
theorem WAsg.tuple {ts : List Expr} {k : Nat} {pos : Pos} {ds : List D} {Q : St → Prop} (w : WNames Γ ts ds Q σ) (ht : ts.all notStar = true := by rfl) (hl : ts.length = ds.length := by rfl) : WAsg Γ (.Tuple ts k pos) (.tup ds) Q σ := fun g s v a r => by
  obtain ⟨T, vs, rfl, zT, hT, rs⟩ := r
  exact assign_tuple_at ht hl w a hT rs
inductive QSetT (Γ : Cx) (ts : List Expr) (Q : Out → St → Prop) (d : D) (σ : St) : Prop
  | mk (ds : List D) (e : d = .tup ds) (l : ts.length = ds.length) (w : WNames Γ ts ds (Q .next) σ)
/-- the same of a tuple of ints -/
theorem WS.assignT {ts : List Expr} {k : Nat} {tpos pos : Pos} {value : Expr} {Q : Out → St → Prop} (h : WE Γ value (QSetT Γ ts Q) σ) (ht : ts.all notStar = true := by rfl)
    (hs : swapsWithSole [.Tuple ts k tpos] value pos.line Γ.env = pure false := by rfl) (hw : swappedStores [.Tuple ts k tpos] value Γ.env = pure none := by rfl) : WS Γ E (.Assign [.Tuple ts k tpos] value pos) Q σ := fun g s a => by
  refine Assign_Tuple (WE.use h a fun v g' σ' d h' tk t a' r q => ?_) hs hw
  obtain ⟨ds, rfl, hl, w⟩ := q
  obtain ⟨T, vs, rfl, zT, hT, rs⟩ := r
  refine wpAny_mono (assign_tuple_at (s := { s with heap := h', toks := tk }) ht hl w a' hT rs) (fun _ s' p => ?_) fun _ _ f => f.elim
  obtain ⟨g2, σ2, h2, tk2, rfl, t2, a2, q2⟩ := p
  exact ⟨g2, σ2, .next, h2, tk2, rfl, t.trans t2, a2, rfl, q2⟩

/-- the places that a walk over three lists keeps for itself -/
def z3hd (n : Nat) : List Nat := [n + 5, n + 4, n, n + 1, n + 2, n + 3]
theorem z3mem {n b : Nat} : b ∈ z3hd n ↔ (b = n + 5 ∨ b = n + 4 ∨ b = n ∨ b = n + 1 ∨ b = n + 2 ∨ b = n + 3) := by simp [z3hd]
theorem OffZ.hd {n : Nat} {h h' : Heap} (o : OffZ n h h') : ∀ b x, b ∉ z3hd n → h.get? b = some x → h'.get? b = some x := fun b x hb e => by
  have hb : ¬ ((b : Nat) ∈ z3hd n) := hb
  rw [z3mem] at hb
  simp only [not_or] at hb
  exact o b x hb.1 hb.2.1 hb.2.2.1 hb.2.2.2.1 hb.2.2.2.2.1 e
theorem Z3.live {h : Heap} {n l1 l2 l3 : Nat} {xs ys us : Array Value} {f0 p q r : Value} {k1 k2 k3 : Nat} (Z : Z3 h n l1 l2 l3 xs ys us f0 p q r k1 k2 k3) : ∀ b ∈ z3hd n, (h.get? b).isSome = true := fun b hb => by
  have hb : (b : Nat) ∈ z3hd n := hb
  rw [z3mem] at hb
  rcases hb with rfl | rfl | rfl | rfl | rfl | rfl
  · exact live_of Z.z
  · exact live_of Z.TO
  · obtain ⟨o, e, _⟩ := Z.i1; exact live_of e
  · obtain ⟨o, e, _⟩ := Z.i2; exact live_of e
  · obtain ⟨o, e, _⟩ := Z.i3; exact live_of e
  · exact live_of Z.TI
theorem Z3.frame {h h' : Heap} {n l1 l2 l3 : Nat} {xs ys us : Array Value} {f0 p q r : Value} {k1 k2 k3 : Nat} (Z : Z3 h n l1 l2 l3 xs ys us f0 p q r k1 k2 k3) (hk : ∀ b ∈ z3hd n, ∀ o, h.get? b = some o → h'.get? b = some o)
    (hl : ∀ b, (b = l1 ∨ b = l2 ∨ b = l3) → ∀ o, h.get? b = some o → h'.get? b = some o) : Z3 h' n l1 l2 l3 xs ys us f0 p q r k1 k2 k3 := by
  have k : ∀ b : Nat, (b = n + 5 ∨ b = n + 4 ∨ b = n ∨ b = n + 1 ∨ b = n + 2 ∨ b = n + 3) → ∀ o, h.get? b = some o → h'.get? b = some o := fun b hb o e => hk b (z3mem.mpr hb) o e
  exact ⟨k _ (by simp) _ Z.z, k _ (by simp) _ Z.TI, k _ (by simp) _ Z.TO, Z.i1.at fun o e => k _ (by simp) _ e, Z.i2.at fun o e => k _ (by simp) _ e, Z.i3.at fun o e => k _ (by simp) _ e, Z.a1.at fun o e => hl _ (.inl rfl) _ e, Z.a2.at fun o e => hl _ (.inr (.inl rfl)) _ e, Z.a3.at fun o e => hl _ (.inr (.inr rfl)) _ e, Z.b1, Z.b2, Z.b3⟩

theorem reps_item {h : Heap} {Z : Addr → Prop} {ds : List D} {vs : List Value} (r : Reps Γ.toWd h Z ds vs) (i : Nat) : (ds[i]? = none ∧ (vs.toArray)[i]? = none) ∨ ∃ d v, ds[i]? = some d ∧ (vs.toArray)[i]? = some v ∧ Rep Γ.toWd h Z d v := by
  have hl := r.length
  cases e : ds[i]? with
  | none =>
    left
    refine ⟨rfl, ?_⟩
    rw [List.getElem?_toArray, List.getElem?_eq_none_iff]
    rw [List.getElem?_eq_none_iff] at e
    lia
  | some d =>
    obtain ⟨v, hv, rv⟩ := r.get e
    exact .inr ⟨d, v, rfl, by rw [List.getElem?_toArray]; exact hv, rv⟩

theorem LoopAt.next3 {g₀ : Gh} {h₀ : Heap} {s₁ : Shared} {n l1 l2 l3 : Nat} {as bs cs : List D} {xs ys us : List Value} {p q r : Value} {i : Nat} {h : Heap} {Q : Option Value → Shared → Prop} {X' : Value → Shared → Prop}
    (ap : Apart Γ (z3hd n) h₀) (L : LoopAt Γ g₀ h₀ (z3hd n) g σ h) (hs : s₁.heap = h) (Z : Z3 h n l1 l2 l3 xs.toArray ys.toArray us.toArray .none p q r i i i)
    (r1 : Reps Γ.toWd h₀ g₀.z as xs) (r2 : Reps Γ.toWd h₀ g₀.z bs ys) (r3 : Reps Γ.toWd h₀ g₀.z cs us)
    (hlt : ∀ a b c (T : Addr) h' x y u, as[i]? = some a → bs[i]? = some b → cs[i]? = some c → LoopAt Γ g₀ h₀ (z3hd n) g σ h' → Z3 h' n l1 l2 l3 xs.toArray ys.toArray us.toArray (rawInt T) x y u (i + 1) (i + 1) (i + 1) → h'.IsTuple T #[x, y, u] → Reps Γ.toWd h' g.z [a, b, c] [x, y, u] → T ≠ n + 5 → Q (some (.ref T)) { s₁ with heap := h' })
    (hge : (as[i]? = none ∨ bs[i]? = none ∨ cs[i]? = none) → ∀ h', Tr Γ g₀ h₀ g h' → At Γ g σ h' → Q none { s₁ with heap := h' }) :
    wpAny (model Γ.prog Γ.w) Γ.A (pyNext (.ref (n + 5))) Q X' s₁ := by
  subst hs
  have stop : (as[i]? = none ∨ bs[i]? = none ∨ cs[i]? = none) → (xs.toArray[i]? = none ∨ ys.toArray[i]? = none ∨ us.toArray[i]? = none) → wpAny (model Γ.prog Γ.w) Γ.A (pyNext (.ref (n + 5))) Q X' s₁ := fun c1 c2 => by
    refine zip3_next_end L.a.ok.hd Z c2 fun h3 O3 => ?_
    exact hge c1 h3 (L.t.off ap.new O3.hd) (L.a.off (fun b hb => ⟨(L.off b hb).1, (L.off b hb).2, ap.mu b hb, ap.base b hb, ap.cell b hb⟩) O3.hd)
  rcases reps_item r1 i with ⟨c1, c2⟩ | ⟨d1, x, e1, f1, q1⟩
  · exact stop (.inl c1) (.inl c2)
  rcases reps_item r2 i with ⟨c1, c2⟩ | ⟨d2, y, e2, f2, q2⟩
  · exact stop (.inr (.inl c1)) (.inr (.inl c2))
  rcases reps_item r3 i with ⟨c1, c2⟩ | ⟨d3, u, e3, f3, q3⟩
  · exact stop (.inr (.inr c1)) (.inr (.inr c2))
  refine zip3_next_item Z f1 f2 f3 fun h3 Z3' T3 O3 => ?_
  have L' := L.hid ap O3.hd Z3'.live
  have mono : ∀ {d : D} {v : Value}, Rep Γ.toWd h₀ g₀.z d v → Rep Γ.toWd h3 g.z d v := fun q => Rep.mono L'.t.z L'.t.kz _ q
  have hn : (s₁.heap.objs.size : Nat) ≠ n + 5 := fun e => by
    have := Heap.lt_size Z.z
    rw [e] at this
    exact absurd this (Nat.lt_irrefl _)
  exact hlt d1 d2 d3 _ h3 x y u e1 e2 e3 L' Z3' ⟨_, T3, rfl, _, rfl⟩ (Reps.cons (mono q1) (Reps.cons (mono q2) (Reps.cons (mono q3) .nil))) hn

inductive QZip (Γ : Cx) (t1 t2 t3 : Expr) (body : List Stmt) (Q : Out → St → Prop) (ds : List D) (σ₁ : St) : Prop
  | mk (as bs cs : List D) (e : ds = [.lst as, .lst bs, .lst cs]) (J : Nat → St → Prop) (j0 : J 0 σ₁)
      (turn : ∀ (i : Nat) a b c σ₂, as[i]? = some a → bs[i]? = some b → cs[i]? = some c → J i σ₂ → WNames Γ [t1, t2, t3] [a, b, c] (QBody Γ body (J (i + 1)) Q) σ₂)
      (fin : ∀ (i : Nat) σ₂, J i σ₂ → (as[i]? = none ∨ bs[i]? = none ∨ cs[i]? = none) → Q .next σ₂)
inductive ZipJ (Γ : Cx) (g₁ : Gh) (h₁ : Heap) (as : List D) (l1 l2 l3 : Addr) (xs ys us : List Value) (J : Nat → St → Prop) (s : Shared) (k : Nat) (s' : Shared) : Prop
  | mk (i : Nat) (g' : Gh) (σ' : St) (h' : Heap) (tk' : Nat) (p q r : Value) (j1 : k = as.length - i) (j2 : i ≤ as.length) (j3 : s' = { s with heap := h', toks := tk' }) (j4 : LoopAt Γ g₁ h₁ (z3hd h₁.objs.size) g' σ' h') (j5 : Z3 h' h₁.objs.size l1 l2 l3 xs.toArray ys.toArray us.toArray .none p q r i i i) (j6 : J i σ')
theorem WS.forZip3 {t1 t2 t3 e1 e2 e3 : Expr} {k : Nat} {tp pz pc pos : Pos} {body : List Stmt} {Q : Out → St → Prop}
    (hk : Γ.env.kindOf "zip" = some .globalImplicit) (hm : Γ.mg "zip" = none) (hb : Γ.mb "zip" = some (.type "zip"))
    (h : WEs Γ [e1, e2, e3] (QZip Γ t1 t2 t3 body Q) σ)
    (hs : [e1, e2, e3].all notStar = true := by rfl) (ht : [t1, t2, t3].all notStar = true := by rfl)
    (hfold : ∀ v, foldedSetIterable (.Call (.Name "zip" pz) [e1, e2, e3] [] pc) Γ.env v = pure v := by intro _; rfl) :
    WS Γ NoX (.For (.Tuple [t1, t2, t3] k tp) (.Call (.Name "zip" pz) [e1, e2, e3] [] pc) body [] pos) Q σ := fun g s a => by
  refine wpAny_For ?_ hfold
  refine wpAny_Call_NameR (eval_builtin a hk hm hb ?_ (by decide))
  refine PySem.callWith_type (backTo_plain _ _ _ hs) (evalArgs_of hs h a fun g₁ σ₁ ds vs h₁ tk₁ t₁ a₁ r₁ q => ?_)
  obtain ⟨as, bs, cs, rfl, J, j0, turn, fin⟩ := q
  obtain ⟨v1, w1, rfl, ⟨l1, xs, rfl, z1, hl1, rs1⟩, v2, w2, rfl, ⟨l2, ys, rfl, z2, hl2, rs2⟩, v3, w3, rfl, ⟨l3, us, rfl, z3, hl3, rs3⟩, e0⟩ := r₁
  cases e0
  refine call_zip_3 (s := { s with heap := h₁, toks := tk₁ }) hl1 hl2 hl3 fun h₂ Z₂ k₂ => ?_
  refine wpAny_pyIter_zip Z₂.z ?_
  have hlt : ∀ b ∈ z3hd h₁.objs.size, h₁.get? b = none := fun b hb => by
    have hb : (b : Nat) ∈ z3hd h₁.objs.size := hb
    rw [z3mem] at hb
    refine Heap.get?_none_of_le ?_
    show (h₁.objs.size : Nat) ≤ b
    have hn : ∀ m : Nat, (b = m + 5 ∨ b = m + 4 ∨ b = m ∨ b = m + 1 ∨ b = m + 2 ∨ b = m + 3) → m ≤ b := fun m hm => by
      rcases hm with hm | hm | hm | hm | hm | hm <;> subst hm <;> simp
    exact hn _ hb
  have ap : Apart Γ (z3hd h₁.objs.size) h₁ := Apart.of a₁ hlt
  refine codeAny_loop' rfl (ZipJ Γ g₁ h₁ as l1 l2 l3 xs ys us J s) ?_ as.length
    ⟨0, g₁, σ₁, h₂, tk₁, .none, .none, .none, rfl, Nat.zero_le _, rfl, LoopAt.start a₁ k₂ hlt Z₂.live, Z₂, j0⟩
  rintro k s' ⟨i, g', σ', h', tk', p, q, r, rfl, hi, rfl, L, Z, j⟩
  show wpAny _ _ ((forTurn (.Tuple [t1, t2, t3] _ tp) (.ref (h₁.objs.size + 5)) body [] Γ.env).onRaise (fun x => do noteFrame x Γ.env; theTreesLotGoes x)) _ _ _
  refine wpAny_noted ?_
  simp only [forTurn]
  refine wpAny_bind (wpAny_standAt (wpAny_bind (wpAny_onRaise ?_)))
  refine LoopAt.next3 ap L rfl Z rs1 rs2 rs3 ?_ ?_
  · intro d1 d2 d3 T h3 x y u e1 e2 e3 L3 Z3' hT r3 hne
    have hia : i < as.length := (List.getElem?_eq_some_iff.mp e1).1
    refine wpAny_bind (wpAny_letOwnedTupleGo_zip Z3'.z fun h4 z4 hs4 => ?_)
    have O4 : OffZ h₁.objs.size h3 h4 := .at5 fun b o hb e => hs4.extBut b o hb e
    have Z4 := Z3'.setZ z4 (fun b o hb e => hs4.extBut b o hb e)
    have L4 := L3.hid ap O4.hd Z4.live
    have hT4 : h4.IsTuple T #[x, y, u] := isTuple_keep hT fun o e => hs4.extBut T o hne e
    have r4 : Reps Γ.toWd h4 g'.z [d1, d2, d3] [x, y, u] := Reps.mono (fun _ z => z) (fun b o z e => O4.hd b o (fun m => (L3.off b m).1 z) e) _ r3
    refine wpAny_bind (wpAny_mono (assign_tuple_at (s := { s with heap := h4, toks := tk' }) ht rfl (turn i d1 d2 d3 σ' e1 e2 e3 j) L4.a hT4 r4) (fun _ s' p => ?_) fun _ _ f => f.elim)
    obtain ⟨g5, σ5, h5, tk5, rfl, t5, a5, w⟩ := p
    obtain ⟨L5, k5⟩ := L4.turn ap t5 a5
    refine wpAny_bind (wpAny_mono (w g5 _ a5) (fun f s' p => ?_) fun _ _ f => f.elim)
    obtain ⟨g6, σ6, o, h6, tk6, rfl, t6, a6, fo, q6⟩ := p
    obtain ⟨L6, k6⟩ := L5.turn ap t6 a6
    have Z6 := (Z4.frame (h' := h5) (fun b hb o e => k5 b hb o e) (fun b hb o e => by
      rcases hb with rfl | rfl | rfl
      · exact t5.kz _ o (L4.t.z _ z1) e
      · exact t5.kz _ o (L4.t.z _ z2) e
      · exact t5.kz _ o (L4.t.z _ z3) e)).frame (h' := h6) (fun b hb o e => k6 b hb o e) (fun b hb o e => by
      rcases hb with rfl | rfl | rfl
      · exact t6.kz _ o (L5.t.z _ z1) e
      · exact t6.kz _ o (L5.t.z _ z2) e
      · exact t6.kz _ o (L5.t.z _ z3) e)
    cases o with
    | next => have : f = .next := fo; subst this; exact wpAny_pure (.inl ⟨rfl, as.length - (i + 1), by lia, i + 1, g6, σ6, h6, tk6, x, y, u, rfl, hia, rfl, L6, Z6, q6⟩)
    | cont => have : f = .cont := fo; subst this; exact wpAny_pure (.inl ⟨rfl, as.length - (i + 1), by lia, i + 1, g6, σ6, h6, tk6, x, y, u, rfl, hia, rfl, L6, Z6, q6⟩)
    | brk => have : f = .brk := fo; subst this; exact wpAny_pure ⟨g6, σ6, .next, h6, tk6, rfl, t₁.trans L6.t, a6, rfl, q6⟩
    | ret d => obtain ⟨v, rfl, rv⟩ := fo; exact wpAny_pure ⟨g6, σ6, .ret d, h6, tk6, rfl, t₁.trans L6.t, a6, ⟨v, rfl, rv⟩, q6⟩
  · intro c h3 t3 a3
    refine wpAny_pure (.inr ⟨rfl, codeAny_block (wpAny_execs_nil ?_)⟩)
    exact ⟨g', σ', .next, h3, tk', rfl, t₁.trans t3, a3, rfl, fin i σ' j c⟩
end
end Mine

namespace Mine

section
theorem slot_bytes_join : Slot "bytes" "join" "bytes.join" :=
  .of (owner := "bytes") (n := "join") (by rw [typeLookup_type, builtinLookup_eq_fast]; kernel_rfl) (by decide +kernel) (by decide +kernel) (by decide +kernel)
    (by first | exact .inl (by decide +kernel) | exact .inr (by decide +kernel)) (by rw [isSubtype_type]; kernel_rfl)
theorem type_bytes_join : typeOf (.builtin "bytes.join") = pure (.type "method_descriptor") := by show builtinType _ = _; rw [builtinType_eq_fast]; kernel_rfl
theorem entry_bytes_join : entryFor table "bytes.join" = some Builtin.«bytes.join» := entryFor_of_tree (by kernel_rfl)
theorem args_bytes_join_2 (a b : Value) : argsOk "bytes.join" ⟨[a, b], []⟩ := by
  unfold argsOk; rw [PySem.signature?_of (id := "bytes.join") (n := ['n', 'i', 'o', 'j']) (o := ['s', 'e', 't', 'y', 'b']) (by kernel_rfl) FB.owner_bytes]; kernel_rfl
end
theorem mBJoin : MethIs "bytes" "join" "bytes.join" := ⟨FB.plainAttrs_bytes, slot_bytes_join, type_bytes_join⟩

section
variable {prog : Program} {w : World} {A : Around} {E : Value → Shared → Prop} {s : Shared}

theorem joinLetGo_plain {Q : Unit → Shared → Prop} {keep : List Value} : ∀ {taken : List (Value × Option Value)}, (∀ x ∈ taken, x.2 = none) → Q () s → wpAny (model prog w) A (Builtin.Bytes.joinLetGo taken keep) Q E s
  | [], _, h => wpAny_pure h
  | (x, w') :: rest, hn, h => by
    have : w' = none := hn _ List.mem_cons_self
    subst this
    unfold Builtin.Bytes.joinLetGo
    refine wpAny_bind (wpAny_letGo ?_)
    exact joinLetGo_plain (fun y hy => hn y (List.mem_cons_of_mem _ hy)) h

theorem takeQuiet {id : String} {b : Array UInt8} {t : Tok} {Q : Option (Array UInt8 × Option Value) → Shared → Prop} (h : Q (some (b, none)) s) : wpAny (model prog w) A (Builtin.Bytes.takeBufferQuiet? id (.bytes b t) 0) Q E s := by
  have e : Builtin.Bytes.takeBuffer? id (.bytes b t) 0 = pure (some (b, none)) := by
    have hf : ((0 : Int) == Builtin.Bytes.fullReadOnly) = false := by decide
    unfold Builtin.Bytes.takeBuffer?
    rw [KBy.special_eq KBy.look_buffer, KBy.own_buffer, hf, KBy.buffer_eq]
    kernel_rfl
  unfold Builtin.Bytes.takeBufferQuiet?
  rw [e]
  exact wpAny_bind (wpAny_attempt (wpAny_pure (wpAny_pure h)))

theorem joined_nil (bs : List (Array UInt8)) : (Builtin.Bytes.joined #[] bs).toList = (bs.map (·.toList)).flatten := by
  unfold Builtin.Bytes.joined
  have key : ∀ (l : List (Array UInt8)) (k : Nat) (acc : Array UInt8), ((l.zipIdx k).foldl (fun out x => (if x.2 > 0 then out ++ #[] else out) ++ x.1) acc).toList = acc.toList ++ (l.map (·.toList)).flatten := by
    intro l
    induction l with
    | nil => intro k acc; simp
    | cons b l ih =>
      intro k acc
      rw [List.zipIdx_cons, List.foldl_cons, ih]
      by_cases q : k > 0 <;> simp [q]
  have := key bs 0 #[]
  simpa using this

theorem bytes_join {y : Addr} {vs : List Value} {bs : List (Array UInt8)} {sep : Array UInt8} {t : Tok} {P : Value → Shared → Prop} (hs : sep = #[]) (hl : s.heap.IsList y vs.toArray) (hlen : vs.length = bs.length)
    (hv : ∀ i, i < vs.length → ∃ t, vs.getD i .none = .bytes (bs.getD i #[]) t) (hz : (bs.map (·.size)).sum ≤ 16777216)
    (h : ∀ t' tk, P (.bytes (Builtin.Bytes.joined #[] bs) t') { s with toks := tk }) :
    wpAny (model prog w) A (Builtin.«bytes.join» ⟨[.bytes sep t, .ref y], []⟩) (fun fin s' => ∃ v, fin = .done (.ret v) ∧ P v s') E s := by
  subst hs
  obtain ⟨o, ho, hc, n, hd⟩ := id hl
  show wpAny _ _ (Builtin.Bytes.joinItems (.ref y) >>= _) _ _ _
  refine wpAny_bind ?_
  unfold Builtin.Bytes.joinItems
  refine wpAny_bind (wpAny_typeOf hl.typeIs ?_)
  rw [if_pos (by decide)]
  refine wpAny_pure ?_
  refine wpAny_bind (wpAny_seqItems ho hd ?_)
  obtain ⟨N, hN⟩ : ∃ N, N = vs.length := ⟨_, rfl⟩
  have hv' : ∀ i, i < N → ∃ t, vs.toArray.getD i .none = .bytes (bs.getD i #[]) t := fun i hi => by
    obtain ⟨t, e⟩ := hv i (by lia)
    refine ⟨t, ?_⟩
    rw [← e]; simp
  rcases vs with _ | ⟨v1, _ | ⟨v2, rest⟩⟩
  case cons.nil =>
    obtain ⟨t1, e1⟩ := hv 0 (by simp)
    have e1 : v1 = .bytes (bs.getD 0 #[]) t1 := by simpa using e1
    subst e1
    obtain ⟨b, rfl⟩ : ∃ b, bs = [b] := by
      rcases bs with _ | ⟨b, _ | ⟨c, r⟩⟩
      · simp at hlen
      · exact ⟨b, rfl⟩
      · simp at hlen
    show wpAny _ _ (typeOf (.bytes b t1) >>= _) _ _ _
    refine wpAny_bind (wpAny_typeOf (typeIs_bytes s b t1) ?_)
    rw [if_pos (by decide)]
    refine wpAny_bind (wpAny_rule (wpAny_pure ⟨_, rfl, ?_⟩))
    have : Builtin.Bytes.joined #[] [b] = b := by apply Array.toList_inj.mp; rw [joined_nil]; simp
    have h := h t1 s.toks
    rw [this] at h
    exact h
  case nil =>
    obtain rfl : bs = [] := List.eq_nil_of_length_eq_zero hlen.symm
    show wpAny _ _ (forIn _ _ _ >>= _) _ _ _
    rw [Std.Legacy.Range.forIn_eq_forIn_range']
    refine wpAny_bind (wpAny_pure (a := (#[], [])) ?_)
    refine wpAny_bind (wpAny_pure (a := (#[] : Array UInt8)) ?_)
    refine wpAny_bind (wpAny_mkBytes ?_ (Nat.zero_le _))
    refine wpAny_bind (wpAny_holding (wpAny_point ?_))
    exact wpAny_bind (wpAny_pure (wpAny_pure ⟨_, rfl, h _ _⟩))
  case cons.cons =>
    show wpAny _ _ (forIn _ _ _ >>= _) _ _ _
    refine wpAny_bind ?_
    rw [Std.Legacy.Range.forIn_eq_forIn_range']
    rw [← hN] at hlen
    refine wpAny_forIn_list _ (fun rest b s' => s' = s ∧ ∃ k, rest = List.range' k (N - k) ∧ k ≤ N ∧ b.1.toList = bs.take k ∧ ∀ x ∈ b.2, x.2 = none ∧ x.1.onHeap = false) _ ?_ ?_ _ _ ⟨rfl, 0, ?_, Nat.zero_le _, by simp, by simp⟩
    · rintro i rest b s' ⟨rfl, k, hr, hk, hb, ht⟩
      have hkN : k < N := by
        rcases Nat.lt_or_ge k N with q | q
        · exact q
        · rw [show N - k = 0 from by lia] at hr; simp at hr
      rw [show N - k = (N - (k + 1)) + 1 from by lia, List.range'_succ] at hr
      simp only [List.cons.injEq] at hr
      obtain ⟨rfl, rfl⟩ := hr
      obtain ⟨t1, e1⟩ := hv' i hkN
      refine wpAny_bind (wpAny_seqItems ho hd ?_)
      have hheap : (b.2.any fun x => x.1.onHeap) = false := by
        rw [List.any_eq_false]; intro x hx; rw [(ht x hx).2]; simp
      show wpAny _ _ (if (false || b.2.any fun x => x.1.onHeap) = true then _ else _) _ _ _
      rw [hheap]
      simp only [Bool.or_false, Bool.false_eq_true, if_false]
      rw [e1]
      refine wpAny_bind (wpAny_holding (takeQuiet ?_))
      refine wpAny_bind (wpAny_seqItems ho hd ?_)
      dsimp only
      rw [if_neg (by simp)]
      refine wpAny_pure ⟨rfl, i + 1, rfl, hkN, ?_, ?_⟩
      · simp only [Array.toList_push, hb]
        rw [List.take_add_one]
        congr 1
        have : i < bs.length := by lia
        simp [this]
      · intro x hx
        rcases List.mem_append.mp hx with hx | hx
        · exact ht x hx
        · rw [List.mem_singleton.mp hx]; exact ⟨rfl, rfl⟩
    · rintro b s' ⟨rfl, k, hr, hk, hb, ht⟩
      have hkN : k = N := by
        rcases Nat.lt_or_ge k N with q | q
        · have := congrArg List.length hr; simp at this; lia
        · lia
      subst hkN
      rw [hlen, List.take_length] at hb
      have hb' : b.1 = bs.toArray := by rw [← hb]
      refine wpAny_bind (wpAny_pure (a := (#[] : Array UInt8)) ?_)
      have hsum : ∀ (l : List (Array UInt8)) (a : Nat), l.foldl (fun x1 x2 => x1 + x2.size) a = a + (l.map (·.size)).sum := by
        intro l
        induction l with
        | nil => intro a; simp
        | cons c l ih => intro a; rw [List.foldl_cons, ih]; simp; lia
      have hfold : Array.foldl (fun x1 x2 => x1 + x2.size) ((#[] : Array UInt8).size * (b.1.size - 1)) b.1 = (bs.map (·.size)).sum := by
        rw [← Array.foldl_toList, hb, hsum]; simp
      rw [hfold, KBy.tooLong_not hz]
      simp only [Bool.false_eq_true, if_false]
      rw [hb]
      have hsz : (Builtin.Bytes.joined #[] bs).size ≤ sizeLine := by
        rw [← Array.length_toList, joined_nil, List.length_flatten, List.map_map, sizeLine_eq]
        exact hz
      refine wpAny_bind (wpAny_mkBytes ?_ hsz)
      refine wpAny_bind (wpAny_holding (wpAny_point ?_))
      refine wpAny_bind (joinLetGo_plain (fun x hx => (ht x hx).1) ?_)
      exact wpAny_pure ⟨_, rfl, h _ _⟩
    · rw [hN]; simp [Std.Legacy.Range.size]
end

section
variable {Γ : Cx} {σ : St} {E : ExPost}

theorem SelfOk.bytes {x : List Int} : SelfOk Γ σ (.bytes x) "bytes" := fun g s va a r => by
  obtain ⟨b, t, rfl, _⟩ := r
  exact ⟨typeIs_bytes _ _ _, fun _ e => nomatch e⟩

theorem bytes_items {h : Heap} {Z : Addr → Prop} : ∀ {kk : List (List Int)} {vs : List Value}, Reps Γ.toWd h Z (kk.map .bytes) vs → ∃ bs : List (Array UInt8), bs.map KBw.bInts = kk ∧ vs.length = bs.length ∧ ∀ i, i < vs.length → ∃ t, vs.getD i .none = .bytes (bs.getD i #[]) t
  | [], _, r => by unfold Reps at r; subst r; exact ⟨[], rfl, rfl, fun i hi => absurd hi (by simp)⟩
  | k :: kk, _, r => by
    rw [List.map_cons] at r; unfold Reps at r; obtain ⟨v, ws, rfl, r1, r2⟩ := r
    obtain ⟨b, t, rfl, hb⟩ := r1
    obtain ⟨bs, e1, e2, e3⟩ := bytes_items r2
    refine ⟨b :: bs, by simp [hb, e1], by simp [e2], fun i hi => ?_⟩
    cases i with
    | zero => exact ⟨t, rfl⟩
    | succ i => exact e3 i (by simpa using hi)

/-- b''.join -/
theorem CallOk.bjoin {kk : List (List Int)} (hz : (kk.map (·.length)).sum ≤ 16777216) : CallOk Γ (.builtin "bytes.join") [.bytes [], .lst (kk.map .bytes)] (.bytes kk.flatten) := fun g σ s vs a r => by
  obtain ⟨v, ws, rfl, ⟨b, t, rfl, hb⟩, v2, ws2, rfl, ⟨y, us, rfl, zy, hl, rs⟩, e⟩ := r
  cases e
  obtain ⟨bs, e1, e2, e3⟩ := bytes_items rs
  have hb0 : b = #[] := by
    have := congrArg List.length hb
    rw [KBw.ints_length] at this
    exact Array.size_eq_zero_iff.mp this
  have hsum : (bs.map (·.size)).sum = (kk.map (·.length)).sum := by
    rw [← e1, List.map_map]; congr 1; apply List.map_congr_left; intro c _; simp [KBw.ints_length]
  refine wpAny_call_entry slot_bytes_join (typeIs_bytes _ _ _) entry_bytes_join ?_ (args_bytes_join_2 _ _)
  refine wpAny_mono (bytes_join (P := fun v s' => PR Γ g s (.bytes kk.flatten) v s') hb0 hl e2 e3 (by rw [hsum]; exact hz) fun t' tk => PR.pure fun _ _ => ⟨_, _, rfl, ?_⟩) (fun fin s' p => ?_) fun _ _ e => e
  · unfold KBw.bInts
    rw [joined_nil, ← e1, List.map_flatten, List.map_map]; rfl
  · exact p

theorem list_init_bytes {prog : Program} {w : World} {A : Around} {s : Shared} {R : Result → Shared → Prop} (hh : A.handled = none) (x : Array UInt8) (t : Tok) (S : Addr) (hS : s.heap.get? S = some { cls := .type "list", data := .seq #[] })
    (hR : ∀ h' tk acc' c', (∀ b o, b ≠ S → s.heap.get? b = some o → h'.get? b = some o) → h'.get? S = some { cls := .type "list", dict := none, data := .seq acc' c', slots := #[] } →
      ItemsOf (OctAt x) acc' x.size → R (.ok (.ret .none)) { s with heap := h', toks := tk }) (hn : x.size ≤ sizeLine) :
    wpAny (model prog w) A.in1 (Builtin.«list.__init__» ⟨[.ref S, .bytes x t], []⟩)
      (fun fin s' => match fin with | .done f => R (.ok f) s' | .again c' => c'.quiet = true ∧ codeAny (model prog w) A c' R s') (fun e s' => R (.error e) s') s := by
  show wpAny _ _ (do let old ← Builtin.List.listItems (.ref S); Builtin.List.listUpdate (.ref S) (fun _ => #[]); letGo old.toList.reverse; Builtin.List.listExtendWith (.ref S) (.bytes x t) .none) _ _ s
  refine wpAny_bind ?_
  unfold Builtin.List.listItems
  refine wpAny_bind (wpAny_seqItems hS rfl (wpAny_pure ?_))
  show wpAny _ _ (updateSeq S (fun _ => #[]) >>= fun _ => letGo (#[] : Array Value).toList.reverse >>= fun _ => Builtin.List.listExtendWith (.ref S) (.bytes x t) .none) _ _ s
  refine wpAny_bind (wpAny_updateSeq hS rfl ?_)
  have hS₂ := Heap.get?_update_self (Obj.mapSeq (fun _ => (#[] : Array Value))) hS rfl
  have oth : ∀ b o, b ≠ S → s.heap.get? b = some o → (s.heap.update S (Obj.mapSeq (fun _ => (#[] : Array Value)))).get? b = some o :=
    fun b o hb e => (Heap.get?_update_other _ _ (Ne.symm hb)).trans e
  refine wpAny_bind (wpAny_letGo ?_)
  refine wpAny_extend_bytes (hn := hn) hh x t S .none _ hS₂ fun h' tk acc' c' hk hS' hacc => ?_
  exact hR h' tk acc' c' (fun b o hb e => hk b o hb (oth b o hb e)) hS' hacc

theorem oct_reps {h : Heap} {Z : Addr → Prop} {b : Array UInt8} {acc : Array Value} (x : ItemsOf (OctAt b) acc b.size) : Reps Γ.toWd h Z ((KBw.bInts b).map D.int) acc.toList := by
  have hs : acc.toList.length = (KBw.bInts b).length := by rw [KBw.ints_length]; simpa using x.1
  have hg : ∀ i v, acc.toList[i]? = some v → ∃ k t, (KBw.bInts b)[i]? = some k ∧ v = Value.int k t := fun i v e => by
    have hi : i < b.size := by
      have := (List.getElem?_eq_some_iff.mp e).1
      rw [hs, KBw.ints_length] at this; exact this
    obtain ⟨c, u, hc, e2⟩ := x.2 i v (by simpa using e)
    exact ⟨_, u, KBw.ints_get hc, e2⟩
  generalize KBw.bInts b = ns at hs hg
  generalize acc.toList = vs at hs hg
  clear x
  induction ns generalizing vs with
  | nil => cases vs with
    | nil => exact rfl
    | cons _ _ => simp at hs
  | cons n ns ih =>
    cases vs with
    | nil => simp at hs
    | cons v vs =>
      obtain ⟨k, t, e1, e2⟩ := hg 0 v rfl
      have : k = n := by simpa using e1.symm
      subst this
      refine Reps.cons ⟨t, e2⟩ (ih vs (by simpa using hs) fun i u hu => ?_)
      obtain ⟨k', t', h1, h2⟩ := hg (i + 1) u (by simpa using hu)
      exact ⟨k', t', by simpa using h1, h2⟩
/-- list(bytes) -/
theorem CallOk.list_bytes {ns : List Int} (hz : ns.length ≤ sizeLine) : CallOk Γ (.type "list") [.bytes ns] (.lst (ns.map .int)) := fun g σ s vs a r => by
  obtain ⟨v, ws, rfl, ⟨b, t, rfl, hb⟩, e⟩ := r
  cases e
  have hsz : b.size ≤ sizeLine := by rw [← KBw.ints_length, hb]; exact hz
  refine callType_codes (Q₁ := fun obj s₁ => obj = .ref s.heap.objs.size ∧ s₁ = { s with heap := s.heap.push { cls := .type "list", data := .seq #[] } }) F.called_list (F.typeCall_list_1 _) F.entry_list_init
    (code_list_new _ ⟨rfl, rfl⟩) fun obj s₁ h₁ => ?_
  obtain ⟨rfl, rfl⟩ := h₁
  have hS : (s.heap.push { cls := .type "list", data := .seq #[] }).get? s.heap.objs.size = some { cls := .type "list", data := .seq #[] } := Heap.get?_push_size _ rfl
  refine ⟨⟨_, hS, rfl⟩, F.args_list_init_2 _ _, list_init_bytes (A := Γ.A.in1) (hn := hsz) a.ok.hd b t _ hS fun h' tk acc' c' hk hS' hacc => ?_⟩
  refine ⟨rfl, PR.keep (fun b o e => hk b o (Nat.ne_of_lt (Heap.lt_size e)) (Heap.get?_push_of_some _ e)) (RepV.of ⟨_, acc'.toList, rfl, fresh_z (fresh_size _) hS', ⟨_, hS', rfl, _, rfl⟩, ?_⟩)⟩
  rw [← hb]; exact oct_reps hacc

/-- a dict without entries -/
theorem WE.dictT {pos : Pos} {Q : D → St → Prop} (h : Q (.own σ.own.length) { σ with own := σ.own ++ [otd []] }) : WE Γ (.Dict [] [] pos) Q σ := fun g s a => by
  refine wpAny_Dict_empty ?_
  have hk := kept_push s.heap { cls := .type "dict", data := .dict #[] }
  have hp : (s.heap.push { cls := .type "dict", data := .dict #[] }).get? s.heap.objs.size = some { cls := .type "dict", data := .dict #[] } := Heap.get?_push_size _ rfl
  refine ⟨g.growOwn s.heap _ s.heap.objs.size, _, _, _, s.toks, rfl, Tr.newOwn hk (fresh_size _), At.newOwn (o := otd []) a hk (fresh_size _) (live_of hp) ⟨[], notModules a, Heap.DictOfH.new _, rfl, by simp, rfl⟩, ?_, h⟩
  refine ⟨s.heap.objs.size, ?_, rfl⟩
  show (g.al ++ [s.heap.objs.size])[σ.own.length]? = _
  rw [← a.len]; simp
theorem WE.dictS {pos : Pos} {Q : D → St → Prop} (h : Q (.own σ.own.length) { σ with own := σ.own ++ [osd []] }) : WE Γ (.Dict [] [] pos) Q σ := fun g s a => by
  refine wpAny_Dict_empty ?_
  have hk := kept_push s.heap { cls := .type "dict", data := .dict #[] }
  have hp : (s.heap.push { cls := .type "dict", data := .dict #[] }).get? s.heap.objs.size = some { cls := .type "dict", data := .dict #[] } := Heap.get?_push_size _ rfl
  refine ⟨g.growOwn s.heap _ s.heap.objs.size, _, _, _, s.toks, rfl, Tr.newOwn hk (fresh_size _), At.newOwn (o := osd []) a hk (fresh_size _) (live_of hp) ⟨[], notModules a, Heap.DictOf.new _, rfl, rfl⟩, ?_, h⟩
  refine ⟨s.heap.objs.size, ?_, rfl⟩
  show (g.al ++ [s.heap.objs.size])[σ.own.length]? = _
  rw [← a.len]; simp
theorem WE.dictF {pos : Pos} {Q : D → St → Prop} (h : Q (dtd []) σ) : WE Γ (.Dict [] [] pos) Q σ := fun g s a => by
  refine wpAny_Dict_empty ?_
  have r : RepV Γ.toWd (g.grow s.heap (s.heap.push { cls := .type "dict", data := .dict #[] })) (s.heap.push { cls := .type "dict", data := .dict #[] }) (dtd []) (.ref s.heap.objs.size) :=
    ⟨_, [], rfl, fresh_z (fresh_size _) (Heap.get?_push_size _ rfl), notModules a, Heap.DictOfH.new _, rfl, by simp, rfl⟩
  exact (PR.keep (s := s) (tk := s.toks) (kept_push _ _) r).post a h

/-- cuts of texts -/
def cut (x : Str) (a b : Nat) : Str := ⟨((x.cps.toList.drop a).take (b - a)).toArray⟩
theorem cut_all (x : Str) : cut x 0 x.length = x := by
  have : List.take x.cps.size x.cps.toList = x.cps.toList := List.take_of_length_le (by simp)
  unfold cut Str.length
  simp [this]
theorem SliceOk.str {x : Str} {lo : Int} {hi : Option Int} {a b : Nat} (hz : x.length ≤ sizeLine) (ea : lo = a) (eb : hi = some (b : Int) ∨ (hi = none ∧ b = x.length)) (hab : a ≤ b) (hb : b ≤ x.length) :
    SliceOk Γ σ (.str x) (some lo) hi (.str (cut x a b)) := fun g s va vl vu sl at' r pl pu hs => by
  obtain ⟨t, rfl⟩ := r
  refine ⟨⟨"str", _, typeIs_str _ _ _, F.slot_str_getitem.lookup⟩, ?_⟩
  subst ea
  obtain ⟨l, rfl, el⟩ : ∃ l : Option (Int × Tok), vl = partValue l ∧ l.map (·.1) = some (a : Int) := by cases pl with | int i t => exact ⟨some (_, t), rfl, rfl⟩
  obtain ⟨u, rfl, eu⟩ : ∃ u : Option (Int × Tok), vu = partValue u ∧ u.map (·.1) = hi := by
    cases pu with
    | none => exact ⟨none, rfl, rfl⟩
    | int i t => exact ⟨some (i, t), rfl, rfl⟩
  have hidx : Builtin.Str.strSliceIndices (some (a : Int)) hi 1 x.length = Builtin.Str.strSliceIndices (some (a : Int)) (some (b : Int)) 1 x.length := by
    rcases eb with e | ⟨e, e2⟩
    · rw [e]
    · subst e2; rw [e]
      unfold Builtin.Str.strSliceIndices
      have h1 : ¬ ((x.length : Int) < 0) := by lia
      have h2 : max 0 (min (x.length : Int) (x.length : Int)) = x.length := by lia
      simp only [if_neg h1]
      simp
  refine wpAny_getItem_str_slice (l := l) (u := u) (st := none) hs rfl ?_
  unfold sliceMade slicePicked
  rw [el, eu]
  simp only [Option.map_none, Option.getD_none]
  rw [hidx, StrLaws.sliced_plain x hab hb]
  by_cases q : ((1 : Int) == 1 && (Builtin.Str.strSliceIndices (some (a : Int)) (some (b : Int)) 1 x.length).length == x.length) = true
  · rw [if_pos q]
    have hl : (Builtin.Str.strSliceIndices (some (a : Int)) (some (b : Int)) 1 x.length).length = x.length := by simpa using q
    rw [StrLaws.strSliceIndices_plain hab hb] at hl
    have : cut x a b = x := by
      have e : b - a = x.length := by simpa using hl
      have ha : a = 0 := by lia
      have hb' : b = x.length := by lia
      rw [ha, hb', cut_all]
    rw [this]
    exact PR.here ⟨t, rfl⟩
  · rw [if_neg q]
    refine ⟨?_, PR.pure fun _ _ => ⟨_, rfl⟩⟩
    show (((x.cps.toList.drop a).take (b - a)).toArray).size ≤ sizeLine
    simp only [List.size_toArray, List.length_take, List.length_drop, Array.length_toList]
    have : x.length = x.cps.size := rfl
    lia
/-- one sign of a text -/
theorem ItemOk.str {x : Str} {i : Int} {c : Nat} (hz : x.length ≤ sizeLine) (h0 : 0 ≤ i) (hc : x.cps.toList[i.toNat]? = some c) : ItemOk Γ σ (.str x) (.int i) (.str ⟨#[c]⟩) := fun g s va vi a r ri => by
  obtain ⟨t, rfl⟩ := r
  obtain ⟨t', rfl⟩ := ri
  have hlen : i.toNat < x.length := by have := (List.getElem?_eq_some_iff.mp hc).1; rw [Array.length_toList] at this; exact this
  have hz' : (x.length : Int) < 2 ^ 63 := listFits hz
  refine ⟨⟨"str", _, typeIs_str _ _ _, F.slot_str_getitem.lookup⟩, PyProof.Rows.getItem_str ?_ ?_ (PR.pure fun _ _ => ⟨_, rfl⟩)⟩
  · simp only [Bool.or_eq_false_iff, decide_eq_false_iff_not]; lia
  · rw [seqIdx h0 hlen]; simpa using hc

/-- the keys of a dict, in order -/
theorem ItOk.sdct {al : List (Str × D)} : ItOk Γ (dsd al) (al.map fun x => .str x.1) := fun g σ s v a r => by
  obtain ⟨x, kvs, rfl, zx, hs, hd, e, rs⟩ := r
  obtain ⟨ep, hd⟩ := hd.dictAt
  have hlen : kvs.length = al.length := by have := congrArg List.length e; simpa using this
  refine wpAny_pyIter_dict hs hd ?_
  have hne : x ≠ s.heap.objs.size := fun e => by
    obtain ⟨o, es, eo, _⟩ := hd
    exact absurd (Heap.lt_size eo) (by rw [e]; exact Nat.lt_irrefl _)
  refine ⟨s.heap.objs.size, _, _, _, _, _, _, s.toks, rfl, rfl, Walks.dictKeys a.ok.hd s.heap.objs.size x hne kvs ep, ⟨⟨_, Heap.get?_push_size _ rfl, rfl, rfl⟩, hd.at' fun o e => kept_push _ _ _ _ e⟩, kept_push _ _, ?_, ?_, ?_, ?_, ?_, ?_⟩
  · intro b hb; rw [List.mem_singleton.mp hb]; exact fresh_size _
  · intro i h' st b hb
    rw [List.mem_singleton.mp hb]
    obtain ⟨o, e, _⟩ := st.1
    exact live_of e
  · intro b hb
    rcases List.mem_cons.mp hb with q | q
    · exact .inl (by rw [q]; exact List.mem_singleton.mpr rfl)
    · exact .inr (by rw [List.mem_singleton.mp q]; exact zx)
  · simpa using hlen
  · rintro i v hi ⟨k, y, hx, hk⟩
    obtain ⟨t, rfl⟩ := Value.isStrOf_shape (x := k) hk
    refine ⟨.str k, ?_, ⟨t, rfl⟩⟩
    have h1 : (kvs.map (·.1))[i]? = some k := by rw [List.getElem?_map, hx]; rfl
    rw [e] at h1
    rw [List.getElem?_map] at h1 ⊢
    cases q : al[i]? with
    | none => rw [q] at h1; simp at h1
    | some z => rw [q] at h1; simp at h1; simp [h1]
  · intro i s' t v Q X st h
    obtain ⟨o, e, c, _⟩ := st.1
    exact go_of e c (by decide) h
end
end Mine

namespace Mine

/-- the body of the class's __init__ -/
def initBody (p : Nat → Pos) : List Stmt := [.Assign [.Attribute (.Name "self" (p 0)) "spaces" (p 1)] (.Name "spaces" (p 2)) (p 3), .Assign [.Attribute (.Name "self" (p 4)) "chars" (p 5)] (.Name "chars" (p 6)) (p 7)]

structure InitOk (K : Frag) (fI : Addr) : Prop where
  it : ∃ (oc : Value) (od : Option Addr) (sl : Array (Option Value)) (name qual : Str) (params : Arguments) (p : Nat → Pos) (scope : Scope) (dV kV doc pm : Value) (an : Option Addr) (cdv ct : Value),
    K.lookup fI = some ⟨oc, od, .func (fnX name qual params (initBody p) scope [] dV kV doc pm an cdv ct), sl⟩ ∧ codeIn K cdv qual = true ∧
    (∀ a b c : Value, bindArgs (fnX name qual params (initBody p) scope [] dV kV doc pm an cdv ct) ⟨[a, b, c], []⟩ = pure [(("self" : Str), a), (("spaces" : Str), b), (("chars" : Str), c)]) ∧
    scope.names.lookup ("self" : Str) = some .local ∧ scope.names.lookup ("spaces" : Str) = some .local ∧ scope.names.lookup ("chars" : Str) = some .local ∧ (∀ x ∈ scope.names, x.2 ≠ .cell) ∧
    scope.isCoroutine = false ∧ scope.isGenerator = false ∧ scope.kind = .function

structure CmOk (K : Frag) (C : Addr) : Prop where
  hasDict : hasDictIn K C = true
  pg : plainGet K C "spaces" = true
  fS : findIn K (.ref C) "spaces" = some none
  fC : findIn K (.ref C) "chars" = some none
  makes : makesIn K C = true
  init : ∃ fI, findIn K (.ref C) "__init__" = some (some (.ref fI)) ∧ isFn K (.ref fI) = true ∧ InitOk K fI
  sa : findIn K (.ref C) "__setattr__" = some (some (.builtin "object.__setattr__"))
  po : plainOver K C = true

section
variable {Γ : Cx} {E : ExPost} {σ : St} {g : Gh} {s : Shared}

theorem At.inK {h : Heap} (a : At Γ g σ h) : Γ.K.In h := a.ok.kin.keeps a.keep

theorem handed_rep {h : Heap} {Z : Addr → Prop} {d : D} {v : Value} (r : Rep Γ.toWd h Z d v) : handedIn v = true := by
  cases d with
  | none => cases (show v = .none from r); rfl
  | bool b => cases (show v = .bool b from r); rfl
  | int i => obtain ⟨t, rfl⟩ := r; rfl
  | str i => obtain ⟨t, rfl⟩ := r; rfl
  | bytes i => obtain ⟨b, t, rfl, _⟩ := r; rfl
  | tup ds => obtain ⟨a, _, rfl, _⟩ := r; rfl
  | lst ds => obtain ⟨a, _, rfl, _⟩ := r; rfl
  | sdct ks ds => obtain ⟨a, _, rfl, _⟩ := r; rfl
  | tdct ks ds => obtain ⟨a, _, rfl, _⟩ := r; rfl
  | cmap a b => obtain ⟨a, _, _, _, _, _, _, _, _, _, rfl, _⟩ := r; rfl
  | rng a b c => obtain ⟨a, _, _, _, rfl, _⟩ := r; rfl
  | own i => exact (r : False).elim
theorem taker_none {K : Frag} {C : Addr} {name : Str} (h : findIn K (.ref C) name = some none) : takerIn K C name = some none := by
  unfold takerIn; rw [h]; rfl

/-- what an attribute of the map gives -/
theorem WE.attr {x : Str} {xp pos : Pos} {name : Str} {sp ch d : D} {Q : D → St → Prop} (C : CmOk Γ.K Γ.cm) (hx : σ.loc x = some (.cmap sp ch)) (hn : (name = "spaces" ∧ d = sp) ∨ (name = "chars" ∧ d = ch)) (hsp : ∀ i, sp ≠ .own i) (hch : ∀ i, ch ≠ .own i) (h : Q d σ)
    (hd : (x == ("__debug__" : Str)) = false := by decide)
    (he : eval (.Attribute (.Name x xp) name pos) Γ.env = (do let o ← eval (.Name x xp) Γ.env; standAt pos.atName; let r ← holding [o] (getAttr o name true); letTemporaryGo (.Name x xp) o r; pure r) := by with_unfolding_all rfl) :
    WE Γ (.Attribute (.Name x xp) name pos) Q σ := fun g s a => by
  refine Attribute_Name_ (WE.use (WE.name (Q := fun d' σ' => d' = .cmap sp ch ∧ σ' = σ) hx ⟨rfl, rfl⟩ hd) a fun v g₁ σ₁ dd h₁ tk₁ t₁ a₁ r₁ q => ?_) he
  obtain ⟨rfl, rfl⟩ := q
  obtain ⟨y, dy, vsp, vch, sl, h1, h2, k1, k2, n, rfl, zx, zd, e1, e2, q1, q2⟩ := r₁
  have I : InstAt h₁ y ⟨.ref Γ.cm, some dy, .plain, sl⟩ Γ.cm (some (dictOf [⟨h1, .str (Str.ofString "spaces") k1, vsp⟩, ⟨h2, .str (Str.ofString "chars") k2, vch⟩] n)) := ⟨e1, rfl, rfl, e2⟩
  have X : Γ.K.In h₁ := a₁.inK
  have hga := (plainGet_of C.pg).1
  rcases hn with ⟨rfl, rfl⟩ | ⟨rfl, rfl⟩
  · have hand : handedIn vsp = true := handed_rep q1
    refine get_value (s := { s with heap := h₁, toks := tk₁ }) X I hga (findObj_own C.hasDict C.fS rfl (lookIn_dict _ _ _)) hand ?_
    exact ⟨g₁, σ₁, _, h₁, tk₁ + 1, rfl, t₁, a₁, RepV.of q1, h⟩
  · have hand : handedIn vch = true := handed_rep q2
    refine get_value (s := { s with heap := h₁, toks := tk₁ }) X I hga (findObj_own C.hasDict C.fC rfl (lookIn_dict _ _ _)) hand ?_
    exact ⟨g₁, σ₁, _, h₁, tk₁ + 1, rfl, t₁, a₁, RepV.of q2, h⟩

theorem ld_arg {M : Model} {A : Around} {E : Value → Shared → Prop} {s : Shared} {env : Env} {x : Str} {pos : Pos} {v : Value} {m : Str → Option Value} {Q : Value → Shared → Prop} (hk : env.scope.kind = .function) (hl : env.kindOf x = some .local) (hn : s.heap.Ns env.locals m) (hv : m x = some v) (h : Q v s)
    (hd : (x == ("__debug__" : Str)) = false := by decide) : wpAny M A (eval (.Name x pos) env) Q E s := wpAny_Name (wpAny_loadName_local hk hl hn hv h) hd

/-- the class is called -/
theorem WCall.cmap {sp ch : D} {Q : D → St → Prop} (C : CmOk Γ.K Γ.cm) (hlv : 2 ≤ Γ.lv) (hsp : ∀ i, sp ≠ .own i) (hch : ∀ i, ch ≠ .own i) (q : Q (.cmap sp ch) σ) : WCall Γ (.ref Γ.cm) [sp, ch] Q σ := fun g s vs a r => by
  obtain ⟨v1, w1, rfl, r1, v2, w2, rfl, r2, e⟩ := r
  cases e
  have X := a.inK
  obtain ⟨fI, hi, hf, ⟨oc, od, sl, name, qual, params, p, scope, dV, kV, doc, pm, an, cdv, ct, hl, hcd, hb, n1, n2, n3, ncell, hco, hgen, hk⟩⟩ := C.init
  have hroom : (Γ.A.under (.builtin "type.__call__" ⟨[.ref Γ.cm, v1, v2], []⟩)).depth < recursionLimit := by
    have := a.ok.dp
    show Γ.A.depth + 1 < recursionLimit
    lia
  have r1' := r1.rep hsp
  have r2' := r2.rep hch
  have lim := a.ok.lim.keeps a.keep
  have fin : ∀ (h' : Heap) (tk : Nat) (x dx : Addr) (h1 h2 : Int) (t1 t2 : Tok) (n : Nat), Kept s.heap h' → s.heap.get? x = none → s.heap.get? dx = none → h'.get? x = some (instObj Γ.cm dx) →
      h'.get? dx = some (dictOf [⟨h1, .str (Str.ofString "spaces") t1, v1⟩, ⟨h2, .str (Str.ofString "chars") t2, v2⟩] n) → PostE Γ g s Q (.ref x) { s with heap := h', toks := tk } := fun h' tk x dx h1 h2 t1 t2 n hk hx hdx ex edx =>
    (PR.keep hk (RepV.of (d := .cmap sp ch) ⟨x, dx, v1, v2, _, h1, h2, t1, t2, n, rfl, fresh_z hx ex, fresh_z hdx edx, ex, edx, r1'.grow hk, r2'.grow hk⟩)).post a q
  refine wpAny_call ?_
  obtain ⟨hh, gs, d, t, os⟩ := s
  dsimp only at X a lim fin
  refine make_core (makes_of X C.makes) (looks_findIn X hi) (fun self => bind_fn X self (beq_iff_eq.mp hf)) (.inl rfl) ?_
  have k2 : Kept hh ((hh.push emptyDict).push (instObj Γ.cm hh.objs.size)) := fun b o e => Heap.get?_push_of_some _ (Heap.get?_push_of_some _ e)
  have X2 : Γ.K.In ((hh.push emptyDict).push (instObj Γ.cm hh.objs.size)) := X.keeps k2
  have sz : ((hh.push emptyDict).push (instObj Γ.cm hh.objs.size)).objs.size = hh.objs.size + 2 := by rw [Heap.size_push, Heap.size_push]
  have ex2 : ((hh.push emptyDict).push (instObj Γ.cm hh.objs.size)).get? (hh.objs.size + 1) = some (instObj Γ.cm hh.objs.size) := by
    have := Heap.get?_push_size (hh.push emptyDict) (o := instObj Γ.cm hh.objs.size) rfl
    rwa [Heap.size_push] at this
  have ed2 : ((hh.push emptyDict).push (instObj Γ.cm hh.objs.size)).get? hh.objs.size = some emptyDict := Heap.get?_push_of_some _ (Heap.get?_push_size _ rfl)
  generalize (hh.push emptyDict).push (instObj Γ.cm hh.objs.size) = H at k2 X2 sz ex2 ed2
  refine codeAny_call_def (fd := fnX name qual params (initBody p) scope [] dV kV doc pm an cdv ct) (body := initBody p) (binds := [(("self" : Str), .ref (hh.objs.size + 1)), (("spaces" : Str), v1), (("chars" : Str), v2)]) hroom (X2 _ _ hl) rfl (lim.keeps k2) (codeRec_of X2 hcd) rfl (.of_eq (hb _ _ _)) ncell ?_ ?_ hco hgen hk
  · intro y hy
    simp only [List.mem_cons, List.not_mem_nil, or_false] at hy
    rcases hy with rfl | rfl | rfl
    · exact n1
    · exact n2
    · exact n3
  · intro h₁ hns hk₁
    have hne : (hh.objs.size + 1 : Nat) ≠ hh.objs.size := by lia
    have F₁ : Fr hh H.objs.size h₁ (fun x => List.lookup x [(("self" : Str), Value.ref (hh.objs.size + 1)), (("spaces" : Str), v1), (("chars" : Str), v2)].reverse) := ⟨hns, fun b o e => hk₁ b o (k2 b o e), by rw [sz]; exact Nat.le_add_right _ _⟩
    have N₁ : News hh H.objs.size h₁ [(hh.objs.size + 1, instObj Γ.cm hh.objs.size), (hh.objs.size, dictOf [] 0)] := by
      intro p hp
      simp only [List.mem_cons, List.not_mem_nil, or_false] at hp
      rcases hp with rfl | rfl
      · exact ⟨hk₁ _ _ ex2, (by rw [sz]; show (hh.objs.size + 1 : Nat) ≠ hh.objs.size + 2; lia), Heap.get?_none_of_le (Nat.le_succ _)⟩
      · exact ⟨hk₁ _ _ ed2, (by rw [sz]; show (hh.objs.size : Nat) ≠ hh.objs.size + 2; lia), fresh_size _⟩
    have hkf : ∀ f' L', (callEnv (fnX name qual params (initBody p) scope [] dV kV doc pm an cdv ct) L' f').scope.kind = .function := fun _ _ => hk
    unfold initBody
    refine wpAny_execs_cons ?_
    refine plainObj_wpAny_Assign_Attribute (ld_arg (v := v1) (hkf _ _) n2 hns rfl ?_)
    refine ld_arg (v := .ref (hh.objs.size + 1)) (hkf _ _) n1 hns rfl ?_
    refine set_dict F₁ X N₁ (InstAt.of_news (C := Γ.cm) (dx := hh.objs.size) (sl := #[]) N₁ (.head _) (.tail _ (.head _))) rfl C.sa C.po (taker_none C.fS) C.hasDict rfl rfl (.tail hne (.head (fun _ m => nomatch m))) (Nat.le_of_ble_eq_true rfl) ?_
    intro h₂ F₂ N₂
    refine wpAny_execs_cons ?_
    refine plainObj_wpAny_Assign_Attribute (ld_arg (v := v2) (hkf _ _) n3 F₂.ns rfl ?_)
    refine ld_arg (v := .ref (hh.objs.size + 1)) (hkf _ _) n1 F₂.ns rfl ?_
    refine set_dict F₂ X N₂ (InstAt.of_news (C := Γ.cm) (dx := hh.objs.size) (sl := #[]) N₂ (.head _) (.tail _ (.head _))) rfl C.sa C.po (taker_none C.fC) C.hasDict rfl rfl (.tail hne (.head (fun _ m => nomatch m))) (Nat.le_of_ble_eq_true rfl) ?_
    intro h₃ F₃ N₃
    refine wpAny_execs_nil ?_
    refine ⟨rfl, ?_⟩
    exact fin h₃ _ (hh.objs.size + 1) hh.objs.size _ _ _ _ _ F₃.keep (Heap.get?_none_of_le (Nat.le_succ _)) (fresh_size _) (N₃ _ (.head _)).1 (N₃ _ (.tail _ (.head _))).1

theorem WE.newCMap {x : Str} {px pos : Pos} {args : List Expr} {Q : D → St → Prop} (hk : Γ.env.kindOf x = some .globalImplicit) (hf : Γ.mg x = some (.ref Γ.cm)) (hkeep : keepIn Γ.K (.ref Γ.cm) = true)
    (h : WEs Γ args (fun ds σ₁ => WCall Γ (.ref Γ.cm) ds Q σ₁) σ) (hne : args ≠ []) (hs : args.all notStar = true := by rfl) (hdb : (x == ("__debug__" : Str)) = false := by decide) : WE Γ (.Call (.Name x px) args [] pos) Q σ := fun g s a => by
  refine wpAny_Call_NameR (eval_global a hk hf ?_ hdb)
  cases args with
  | nil => exact absurd rfl hne
  | cons e es =>
    have hs' := hs
    simp only [List.all_cons, Bool.and_eq_true] at hs
    refine callWith_K a.inK hkeep ?_ (starEach_cons hs.1) (backTo_plain _ _ _ hs.2)
    refine wpAny_neverE (wpAny_mono (WEs.items pos (e :: es) hs' h g s a) (fun vs s' p => ?_) fun _ _ f => f)
    obtain ⟨g', σ', ds, h', tk, rfl, t, a', r, q⟩ := p
    exact ⟨a'.inK, wpAny_neverE (wpAny_mono (q g' _ vs a' r) (fun _ _ p => PostE.tr t p) fun _ _ f => f)⟩
end
end Mine

namespace Mine

abbrev bmX (PE : Addr) : List Value := [.ref PE, .type "Exception", .type "BaseException", .type "object"]
abbrev FX := PySem.F.excBase_Exception

/-- the exception's object -/
abbrev excO (C : Addr) (dx : Option Addr) (t : Addr) : Obj := { cls := .ref C, dict := dx, data := .fields #[.ref t, .none, .none, .none, .bool false, .none] }

section
variable {M : Model} {A : Around} {E : Value → Shared → Prop} {h : Heap} {g : Array GenState} {d : Drawn} {t : Nat} {os : OsState}
variable {nm q : Str} {C N PE : Addr} {bs : List Value} {hdct : Bool} {sn : List Str} {sub : List Value} {ab : Bool} {col : Option Bool} {dd : Option Addr} {k0 k1 k2 k3 k5 : Option Value}

theorem ff_check_new {rest : List Value} {Q : Unit → Shared → Prop} (hC : h.get? C = some (excClassObj nm q C N bs (bmX PE) hdct sn sub ab col dd k0 k1 k2 k3 k5 "Exception.__new__"))
    (hq : Q () ⟨h, g, d, t, os⟩) : wpAny M A (checkBuiltinCall "Exception.__new__" ⟨.ref C :: rest, []⟩) Q E ⟨h, g, d, t, os⟩ := by
  have hcont : (Value.ref C :: bmX PE).contains (.type "Exception") = true := by simp
  have hstar := FX.noStar
  simp only [checkBuiltinCall, FX.newKind, FX.newSplit, FX.newRow]
  repeat (first | refine wpAny_loadPart_at hC ?_ | (refine wpAny_isSubtype_exc hC ?_; rw [hcont]) | refine wpAny_staticBase_exc hC ?_ | refine wpAny_madeBy_exc hC ?_ | simp only [bne_self_eq_false, Bool.false_eq_true, if_false] | wp_step)
  exact hq

theorem ff_check_init {e : Addr} {oe : Obj} {rest : List Value} {Q : Unit → Shared → Prop}
    (hC : h.get? C = some (excClassObj nm q C N bs (bmX PE) hdct sn sub ab col dd k0 k1 k2 k3 k5 "Exception.__new__")) (he : h.get? e = some oe) (hcls : oe.cls = .ref C) (hq : Q () ⟨h, g, d, t, os⟩) :
    wpAny M A (checkBuiltinCall "Exception.__init__" ⟨.ref e :: rest, []⟩) Q E ⟨h, g, d, t, os⟩ := by
  have hcB : (Value.ref C :: bmX PE).contains (.type "Exception") = true := by simp
  have hshort := FX.noStar
  simp only [checkBuiltinCall, FX.initKind, FX.initSplit, FX.initRow]
  repeat (first | (with_reducible refine wpAny_loadPart_at he ?_; rw [hcls]) | with_reducible refine wpAny_loadPart_at hC ?_ | (with_reducible refine wpAny_isSubtype_exc hC ?_; rw [hcB]) | wp_step)
  refine wpAny_onRaise ?_
  rw [show ∀ (a b : String) (n : Nat), Bind.check ⟨.positional, "*", "Exception", .self, [⟨"args", .varPos, false⟩]⟩ a b n (List.map (fun x => x.fst) ({ pos := Value.ref e :: rest } : Args).kw) = pure () from
    fun a b n => check_star_args _ _ _ _ _ _]
  exact wpAny_pure hq
end

section
variable {prog : Program} {w : World} {A : Around} {R : Result → Shared → Prop} {h : Heap} {g : Array GenState} {d : Drawn} {t : Nat} {os : OsState}
variable {nm q : Str} {C N PE : Addr} {bs : List Value} {hdct : Bool} {sn : List Str} {sub : List Value} {ab : Bool} {col : Option Bool} {dd : Option Addr} {k0 k1 k2 k3 k5 : Option Value}

theorem ff_new {rest : List Value} (hC : h.get? C = some (excClassObj nm q C N bs (bmX PE) hdct sn sub ab col dd k0 k1 k2 k3 k5 "Exception.__new__"))
    (hq : R (.ok (.ret (.ref (h.objs.size + 1)))) ⟨(h.push { cls := .type "tuple", data := .seq rest.toArray }).push (excO C none h.objs.size), g, d, t, os⟩) (hrest : rest.length ≤ sizeLine := by size_fits) :
    codeAny (model prog w) A (.builtin "Exception.__new__" ⟨.ref C :: rest, []⟩) R ⟨h, g, d, t, os⟩ := by
  have hends := FX.ends
  have hcB : (Value.ref C :: bmX PE).contains (.type "Exception") = true := by simp
  have hcA : (Value.ref C :: bmX PE).contains (.type "AttributeError") = false := by simp
  have hcN : (Value.ref C :: bmX PE).contains (.type "NameError") = false := by simp
  refine codeAny_builtinAt FX.entry ?_
  unfold Builtin.«BaseException.__new__»
  refine PySem.wpAt_bind ?_
  show PySem.wpAt _ _ _ (stack >>= _) _ _ _
  refine PySem.wpAt_bind (PySem.wpAt_stack fun p below => PySem.wpAt_of_wpAny ?_)
  wp_walk
  refine PySem.wpAt_of_wpAny ?_
  rw [FX.owner]
  repeat (first | with_reducible refine wpAny_madeHere_exc FX.canon hC ?_ | with_reducible refine wpAny_loadPart_at hC ?_ | (with_reducible refine wpAny_isSubtype_exc hC ?_; first | rw [hcB] | rw [hcA] | rw [hcN]) | wp_step)
  show R _ _
  rw [Heap.size_push]
  exact hq
end

section
variable {prog : Program} {w : World} {A : Around} {E : Value → Shared → Prop} {h : Heap} {g : Array GenState} {d : Drawn} {t : Nat} {os : OsState}
variable {nm q : Str} {C N PE : Addr} {bs : List Value} {hdct : Bool} {sn : List Str} {sub : List Value} {ab : Bool} {col : Option Bool} {dd : Option Addr} {k0 k1 k2 k3 k5 : Option Value}

theorem ff_type_call {rest : List Value} {fI : Addr} {Q : Fin → Shared → Prop}
    (hC : h.get? C = some (excClassObj nm q C N bs (bmX PE) hdct sn sub ab col dd k0 k1 k2 k3 k5 "Exception.__new__"))
    (hi : Looks (model prog w) h (typeLookup (.ref C) "__init__") (some (.ref fI))) (hb : ∀ self, Looks (model prog w) h (bindSpecial (.ref fI) self) (.ref fI, [self]))
    (hq : ∀ h', Kept h h' → h'.get? (h.objs.size + 1) = some (excO C none h.objs.size) → h'.objs.size = h.objs.size + 2 →
      wpAny (model prog w) A (call (.ref fI) (.ref (h.objs.size + 1) :: rest)) (fun r s' => r = .none ∧ Q (.done (.ret (.ref (h.objs.size + 1)))) s') E ⟨h', g, d, t, os⟩) (hrest : rest.length ≤ sizeLine := by size_fits) :
    wpAny (model prog w) A (Builtin.«type.__call__» ⟨.ref C :: rest, []⟩) Q E ⟨h, g, d, t, os⟩ := by
  repeat (first | with_reducible refine wpAny_loadPart_at hC ?_ | with_reducible refine wpAny_madeBy_exc hC ?_ | wp_step)
  refine codeAny_call_builtin_code (Code.quiet_builtin _ FX.quiet) (ff_check_new hC ?_)
  refine ff_new hC ?_ hrest
  show wpAny _ _ _ _ _ _
  have kp : Kept h ((h.push { cls := .type "tuple", data := .seq rest.toArray }).push (excO C none h.objs.size)) := fun b o e => Heap.get?_push_of_some _ (Heap.get?_push_of_some _ e)
  have sz : ((h.push { cls := .type "tuple", data := .seq rest.toArray }).push (excO C none h.objs.size)).objs.size = h.objs.size + 2 := by rw [Heap.size_push, Heap.size_push]
  have hget : ((h.push { cls := .type "tuple", data := .seq rest.toArray }).push (excO C none h.objs.size)).get? (h.objs.size + 1) = some (excO C none h.objs.size) := by heap_get
  generalize ((h.push { cls := .type "tuple", data := .seq rest.toArray }).push (excO C none h.objs.size)) = H at kp sz hget
  have hC₁ := kp _ _ hC
  have hcC : (Value.ref C :: bmX PE).contains (.ref C) = true := by simp
  unfold isInstance
  repeat (first | with_reducible refine wpAny_loadPart_at hget ?_ | (with_reducible refine wpAny_isSubtype_exc hC₁ ?_; rw [hcC]) | wp_step)
  show wpAny _ _ (typeLookup (.ref C) _) _ _ _
  refine (hi.keeps kp).here (s := ⟨H, g, d, t, os⟩) ?_
  refine wpAny_holding (wpAny_bind (((hb _).keeps kp).here (s := ⟨H, g, d, t, os⟩) ?_))
  refine wpAny_bind (wpAny_mono (hq H kp hget sz) (fun r s' hr => ?_) fun _ _ x => x)
  obtain ⟨rfl, hQ⟩ := hr
  wp_walk
  exact hQ

theorem ff_call {rest : List Value} {fI : Addr} {Q : Value → Shared → Prop}
    (hC : h.get? C = some (excClassObj nm q C N bs (bmX PE) hdct sn sub ab col dd k0 k1 k2 k3 k5 "Exception.__new__"))
    (hi : Looks (model prog w) h (typeLookup (.ref C) "__init__") (some (.ref fI))) (hb : ∀ self, Looks (model prog w) h (bindSpecial (.ref fI) self) (.ref fI, [self]))
    (hq : ∀ h', Kept h h' → h'.get? (h.objs.size + 1) = some (excO C none h.objs.size) → h'.objs.size = h.objs.size + 2 →
      wpAny (model prog w) (A.under (.builtin "type.__call__" ⟨.ref C :: rest, []⟩)) (call (.ref fI) (.ref (h.objs.size + 1) :: rest)) (fun r s' => r = .none ∧ Q (.ref (h.objs.size + 1)) s') E ⟨h', g, d, t, os⟩) (hrest : rest.length ≤ sizeLine := by size_fits) :
    wpAny (model prog w) A (call (.ref C) rest) Q E ⟨h, g, d, t, os⟩ := by
  have f1 := tc_lookup
  have f2 := tc_bind (.ref C)
  have hT : (⟨h, g, d, t, os⟩ : Shared).TypeIs (.ref C) "type" := ⟨_, hC, rfl⟩
  refine wpAny_call (codeAny_of_tree ?_)
  show wpAny _ _ (callAny (.ref C) _) _ _ _
  repeat (any_goals (first | assumption | with_reducible refine wpAny_loadPart_at hC ?_ | wp_step))
  refine ⟨rfl, ?_⟩
  refine codeAny_call_builtin_at (Code.quiet_builtin _ (by decide +kernel)) entry_typeCall (wpAny_check_type_call_sub hC (ff_type_call (hrest := hrest) hC hi hb ?_))
  exact hq
end
end Mine

namespace Mine

/-- what is kept but one address -/
def KeptBut (e : Addr) (h h' : Heap) : Prop := ∀ b o, b ≠ e → h.get? b = some o → h'.get? b = some o

section
variable {prog : Program} {w : World} {A : Around} {E : Value → Shared → Prop} {h : Heap} {g : Array GenState} {d : Drawn} {t : Nat} {os : OsState}
variable {nm q : Str} {C N PE : Addr} {bs : List Value} {hdct : Bool} {sn : List Str} {sub : List Value} {ab : Bool} {col : Option Bool} {dd : Option Addr} {k0 k1 k2 k3 k5 : Option Value}

theorem ff_base_init {e t0 : Addr} {v : Value} {Q : Value → Shared → Prop}
    (hC : h.get? C = some (excClassObj nm q C N bs (bmX PE) hdct sn sub ab col dd k0 k1 k2 k3 k5 "Exception.__new__")) (he : h.get? e = some (excO C none t0))
    (hq : ∀ h' t1, KeptBut e h h' → h'.get? e = some (excO C none t1) → Q .none ⟨h', g, d, t, os⟩) :
    wpAny (model prog w) A (call (.builtin "Exception.__init__") [.ref e, v]) Q E ⟨h, g, d, t, os⟩ := by
  refine wpAny_call (codeAny_call_builtin FX.init.plain FX.initEntry (ff_check_init hC he rfl ?_))
  wp_walk
  refine hq _ h.objs.size (fun b o hb hbo => ?_) ?_
  · rw [Heap.get?_update_other _ _ (Ne.symm hb)]
    exact Heap.get?_push_of_some _ hbo
  · rw [Heap.get?_update_self _ (Heap.get?_push_of_some _ he) rfl]
    rfl

theorem ff_getm {K : Frag} {s : Shared} {pl : Sem Bool} {Q : Value × List Value → Shared → Prop} (X : K.In s.heap)
    (e : findCls K (.type "Exception") (.type "type") "__init__" = some (.val (.builtin "Exception.__init__")))
    (h : Q (.builtin "Exception.__init__", []) { s with toks := s.toks + 1 }) :
    wpAny (model prog w) A (getMethod (.type "Exception") "__init__" pl) Q E s := by
  have hstub : opaqueClassAbove (.type "Exception") = pure none := by unfold opaqueClassAbove; dsimp only; rw [show Manifest.isStub "Exception" = false by decide +kernel]; rfl
  have ht : typeOf (.type "Exception") = pure (.type "type") := by first | rfl | kernel_rfl
  have L0 : Looks (model prog w) s.heap (typeOf (.type "Exception")) (.type "type") := Looks.of_pure ht
  have hg : findIn K (.type "type") "__getattribute__" = some (some (.builtin "type.__getattribute__")) := type_tga
  unfold getMethod specialOf
  refine wpAny_bind (wpAny_bind (L0.here ((looks_findIn X hg).here ?_)))
  dsimp only
  rw [if_pos canon_tga]
  refine wpAny_bind (wpAny_mono (Q := fun v => Q (v, [])) (E := E) ?_ (fun _ _ z => wpAny_pure z) fun _ _ z => z)
  have LO : Looks (model prog w) s.heap (opaqueClassAbove (.type "Exception")) none := Looks.of_pure hstub
  refine cls_open X LO L0 hg (looks_hook X (r := none) (by rfl)) (by show subIn K _ _ = _; rfl) e ?_
  exact wpAny_pure (handed_on rfl h)

theorem callWith_bi {env : Env} {s : Shared} {pos : Pos} {id : String} {e : Expr} {rest : List Expr} {Q : Value → Shared → Prop} (hs : (e :: rest).all notStar = true)
    (h : wpAny (model prog w) A (spliced (backTo pos (starEach (e :: rest) env))) (fun vs s₁ => wpAny (model prog w) A (call (.builtin id) vs) Q E s₁) E s) :
    wpAny (model prog w) A (callWith pos (.builtin id) [] (backTo pos (starEach (e :: rest) env)) []) Q E s := by
  refine Calls.callWith_builtin (backTo_plain _ _ _ hs) ?_
  simp only [List.all_cons, Bool.and_eq_true] at hs
  rw [starEach_cons hs.1] at h ⊢
  exact Calls.evalArgs_plain h

/-- the first statement of the exception's __init__ -/
theorem ff_expr {K : Frag} {s : Shared} {env : Env} {e t0 : Addr} {v : Value} {m mg mb : Str → Option Value} {p0 p1 p2 p3 p4 p5 : Pos} {Q : Flow → Shared → Prop} (X : K.In s.heap)
    (fc : findCls K (.type "Exception") (.type "type") "__init__" = some (.val (.builtin "Exception.__init__")))
    (hC : s.heap.get? C = some (excClassObj nm q C N bs (bmX PE) hdct sn sub ab col dd k0 k1 k2 k3 k5 "Exception.__new__")) (he : s.heap.get? e = some (excO C none t0))
    (hk : env.scope.kind = .function) (hgl : env.globals = mainGlobals) (hbi : env.builtins = builtinsNs) (kE : env.kindOf "Exception" = some .globalImplicit) (kS : env.kindOf "self" = some .local) (kW : env.kindOf "what" = some .local)
    (G : s.heap.Ns mainGlobals mg) (B : s.heap.Ns builtinsNs mb) (gE : mg "Exception" = none) (bE : mb "Exception" = some (.type "Exception"))
    (hn : s.heap.Ns env.locals m) (mS : m "self" = some (.ref e)) (mW : m "what" = some v) (hline : (p1.endLine == p4.line) = true) (hint : interactive env = false)
    (hq : ∀ h' t1 tk, KeptBut e s.heap h' → h'.get? e = some (excO C none t1) → Q .next { s with heap := h', toks := tk }) :
    wpAny (model prog w) A (exec (.Expr (.Call (.Attribute (.Name "Exception" p0) "__init__" p1) [.Name "self" p2, .Name "what" p3] [] p4) p5) env) Q E s := by
  refine wpAny_Expr ?_ hint rfl
  rw [arm_eval_Call, show attributeBase (.Name "Exception" p0) "__init__" env (eval (.Name "Exception" p0) env) = eval (.Name "Exception" p0) env from rfl]
  refine wpAny_bind (Calls.Name_function_global hk kE ?_ (by decide))
  unfold loadGlobal
  rw [hgl, hbi]
  refine wpAny_bind (wpAny_nsGet G ?_)
  rw [gE]
  refine wpAny_bind (wpAny_nsGet B ?_)
  rw [bE]
  refine wpAny_pure (wpAny_bind (wpAny_standAt ?_))
  unfold methodCall
  have hform : methodCallForm ([Expr.Name "self" p2, Expr.Name "what" p3].length + ([] : List Keyword).length) (backTo p4 (starEach [Expr.Name "self" p2, Expr.Name "what" p3] env)) (backToKw p4 (keywordEach [] env)) = true := rfl
  rw [hform]
  refine wpAny_bind (wpAny_holding (ff_getm X fc ?_))
  have hpos : methodCallPos true (.Name "Exception" p0) env p1 p4 = pure p4 := by unfold methodCallPos; simp [hline]
  refine wpAny_bind (wpAny_of_eq hpos ?_)
  refine callWith_bi rfl ?_
  refine wpAny_items_cons (pos := p4) (rest := [Expr.Name "what" p3]) (wpAny_Name (wpAny_loadName_local hk kS hn mS ?_) (by decide)) rfl
  refine wpAny_items_cons (pos := p4) (rest := []) (wpAny_Name (wpAny_loadName_local hk kW hn mW ?_) (by decide)) rfl
  refine wpAny_items_nil ?_
  obtain ⟨hh, g, d, t, os⟩ := s
  exact ff_base_init hC he fun h' t1 k e1 => hq h' t1 _ k e1
end
end Mine

open Builtin Builtin.ObjectAttr
namespace Mine

abbrev SX := PySem.F.store_Exception

section
variable {prog : Program} {w : World} {A : Around} {E : Value → Shared → Prop} {h : Heap} {g : Array GenState} {d : Drawn} {t : Nat} {os : OsState}
variable {nm q : Str} {C N PE : Addr} {bs : List Value} {sn : List Str} {sub : List Value} {ab : Bool} {col : Option Bool} {dd : Option Addr} {k0 k1 k2 k3 k5 : Option Value}
variable {K : Frag} {x : Addr} {name : Str} {v : Value} {mA : Str → Option Value}

theorem ff_check_sa {M : Model} {o : Obj} {nameV : Value} {Q : Unit → Shared → Prop}
    (hC : h.get? C = some (excClassObj nm q C N bs (bmX PE) true sn sub ab col dd k0 k1 k2 k3 k5 "Exception.__new__")) (hx : h.get? x = some o) (hc : o.cls = .ref C) (hq : Q () ⟨h, g, d, t, os⟩) :
    wpAny M A (checkBuiltinCall "object.__setattr__" ⟨[.ref x, nameV, v], []⟩) Q E ⟨h, g, d, t, os⟩ := by
  have hcB : (Value.ref C :: bmX PE).contains (.type "object") = true := by simp
  have ha := SX.args (.ref x) nameV v
  simp only [checkBuiltinCall, SX.kind, SX.split]
  refine wpAny_bind ?_
  · unfold isInstance
    repeat (first | (with_reducible refine wpAny_loadPart_at hx ?_; rw [hc]) | (with_reducible refine wpAny_isSubtype_exc hC ?_; rw [hcB]) | wp_step)
    exact hq

/-- what a store on the exception leaves -/
structure Stored (h h' : Heap) (x C : Addr) (mA : Str → Option Value) (name : Str) (v : Value) : Prop where
  inst : h'.Inst x C (fun y => if y = name then some v else mA y)
  keep : ∀ b o, b ≠ x → (∀ o₀ dx, h.get? x = some o₀ → o₀.dict = some dx → b ≠ dx) → h.get? b = some o → h'.get? b = some o
  same : ∀ o₀, h.get? x = some o₀ → ∃ o₁, h'.get? x = some o₁ ∧ o₁.cls = o₀.cls ∧ o₁.data = o₀.data ∧ o₁.slots = o₀.slots ∧ ∀ dx, o₀.dict = some dx → o₁.dict = some dx
  new : ∀ o₀ o₁ dx, h.get? x = some o₀ → h'.get? x = some o₁ → o₀.dict = none → o₁.dict = some dx → h.get? dx = none

theorem ff_store {tk : Tok} {Q : Fin → Shared → Prop} (hC : h.get? C = some (excClassObj nm q C N bs (bmX PE) true sn sub ab col dd k0 k1 k2 k3 k5 "Exception.__new__"))
    (hB : Looks (model prog w) h (typeLookup (.ref C) name) none) (I : h.Inst x C mA) (hw : PySem.Within mA ["what"])
    (hq : ∀ h' tk', Stored h h' x C mA name v → Q (.done (.ret .none)) ⟨h', g, d, tk', os⟩) :
    wpAny (model prog w) A (Builtin.«object.__setattr__» ⟨[.ref x, .str name tk, v], []⟩) Q E ⟨h, g, d, t, os⟩ := by
  obtain ⟨o, hx, hc, hnc, hd⟩ := I
  have hpass := SX.passes (.ref x)
  unfold Builtin.«object.__setattr__»
  repeat (first | rw [refuse_eq] | (rw [refuseLoop_ref, refuseLoop_ref, hpass]) | (with_reducible refine wpAny_loadPart_at hx ?_; rw [hc]) | with_reducible refine wpAny_mroOf_exc hC ?_ | (refine hB.here (s := ⟨h, g, d, _, os⟩) ?_) | wp_step)
  rcases hd with ⟨hdn, hmA⟩ | ⟨dx, hdx, hne, hns⟩
  · rw [hdn, if_neg (by simp [typeHasDict])]
    split
    · rename_i hcd
      cases hcd
    split
    · rename_i c hcd
      exact absurd hcd (hnc c)
    · have hx₁ : (h.push { cls := .type "dict", data := .dict #[] }).get? x = some o := Heap.get?_push_of_some _ hx
      have hxs : x ≠ h.objs.size := Nat.ne_of_lt (Heap.lt_size hx)
      refine wpAny_bind (wpAny_alloc' ?_)
      refine wpAny_bind (wpAny_update' hx₁ ?_)
      refine wpAny_pure ?_
      have hgd : ((h.push { cls := .type "dict", data := .dict #[] }).update x fun o => { cls := o.cls, dict := some h.objs.size, data := o.data, slots := o.slots }).get? h.objs.size
          = some { cls := .type "dict", data := .dict #[] } :=
        (Heap.get?_update_ne _ _ _ _ hxs.symm).trans (Heap.get?_push_at rfl rfl)
      have hnd : ((h.push { cls := .type "dict", data := .dict #[] }).update x fun o => { cls := o.cls, dict := some h.objs.size, data := o.data, slots := o.slots }).Ns h.objs.size (fun _ => none) :=
        ⟨_, #[], _, hgd, rfl, fun e he => absurd he (by simp), fun _ => rfl⟩
      show wpAny _ _ (storeInDict h.objs.size (.str name tk) name v) _ _ _
      unfold storeInDict newKeyGuard
      refine wpAny_bind (wpAny_pure (wpAny_bind (wpAny_nsSet1 (Heap.Ns1.of_empty hnd) fun h' hn' hs => ?_)))
      obtain ⟨oD, esD, epD, hoD, hdD, hcD⟩ := hn'.count (PySem.Within.cons name v PySem.Within.nil)
      refine wpAny_bind (wpAny_lookBehind hoD (by rw [hdD]; exact pastItsLine_dict (Nat.le_trans hcD (by rw [List.length_cons, List.length_nil, sizeLine_eq]; lia))) ?_)
      wp_walk
      have hx' : h'.get? x = some { cls := o.cls, dict := some h.objs.size, data := o.data, slots := o.slots } := ?_
      refine hq h' _ ⟨⟨{ cls := o.cls, dict := some h.objs.size, data := o.data, slots := o.slots }, hx', hc, hnc, .inr ⟨h.objs.size, rfl, hxs.symm, ?_⟩⟩, fun b ob hbx _ hb => ?_,
        fun o₀ h₀ => ?_, fun o₀ o₁ dx e1 e2 e3 e4 => ?_⟩
      · obtain ⟨o', es, ep, e1, e2, e3, eu, e4⟩ := hn'
        exact ⟨o', es, ep, e1, e2, e3, eu, fun y => by rw [e4 y]; by_cases hy : y = name <;> simp [hy, hmA]⟩
      · exact (hs.2 b (Nat.ne_of_lt (Heap.lt_size hb))).trans ((Heap.get?_update_ne _ _ _ _ hbx).trans (Heap.get?_push_of_some _ hb))
      · obtain rfl : o = o₀ := Option.some.inj (hx.symm.trans h₀)
        exact ⟨_, hx', rfl, rfl, rfl, fun dx e => by rw [hdn] at e; cases e⟩
      · rw [hx'] at e2; cases e2; cases e4; exact Heap.get?_none_of_le (Nat.le_refl _)
      · refine (hs.2 x hxs).trans (Heap.get?_update_self _ hx₁ ?_)
        have hfr := (Heap.get?_some_iff.mp hx).2
        obtain ⟨oc, od, odt, osl⟩ := o
        cases odt <;> first | rfl | exact hfr
  · rw [hdx]
    refine wpAny_pure ?_
    show wpAny _ _ (storeInDict dx (.str name tk) name v) _ _ _
    unfold storeInDict newKeyGuard
    refine wpAny_bind (wpAny_pure (wpAny_bind (wpAny_nsSet1 hns fun h' hn' hs => ?_)))
    obtain ⟨oD, esD, epD, hoD, hdD, hcD⟩ := hn'.count (PySem.Within.cons name v hw)
    refine wpAny_bind (wpAny_lookBehind hoD (by rw [hdD]; exact pastItsLine_dict (Nat.le_trans hcD (by simp only [List.length_cons, List.length_nil, sizeLine_eq]; lia))) ?_)
    wp_walk
    refine hq h' _ ⟨⟨o, (hs.2 x hne.symm).trans hx, hc, hnc, .inr ⟨dx, hdx, hne, hn'⟩⟩, fun b ob _ hbd hb => (hs.2 b (hbd o dx hx hdx)).trans hb,
      fun o₀ h₀ => ⟨o₀, (hs.2 x hne.symm).trans h₀, rfl, rfl, rfl, fun _ e => e⟩, fun o₀ o₁ dy e1 e2 e3 e4 => ?_⟩
    rw [hx] at e1; cases e1; rw [hdx] at e3; cases e3

theorem ff_set {s : Shared} {Q : Unit → Shared → Prop} (X : K.In s.heap) (hC : s.heap.get? C = some (excClassObj nm q C N bs (bmX PE) true sn sub ab col dd k0 k1 k2 k3 k5 "Exception.__new__"))
    (sa : findIn K (.ref C) "__setattr__" = some (some (.builtin "object.__setattr__"))) (hB : findIn K (.ref C) name = some none) (I : s.heap.Inst x C mA) (hw : PySem.Within mA ["what"])
    (hq : ∀ h' tk', Stored s.heap h' x C mA name v → Q () { s with heap := h', toks := tk' }) : wpAny (model prog w) A (setAttr (.ref x) name v) Q E s := by
  obtain ⟨h, g, d, t, os⟩ := s
  obtain ⟨o, hx, hc, _⟩ := id I
  have T : Looks (model prog w) h (typeOf (.ref x)) (.ref C) := by
    have := (Looks.ld (M := model prog w) (part := some headPart) hx).andThen (f := fun o => pure o.cls) (.now (a := o.cls))
    rw [← hc]; exact this
  refine wpAny_bind (wpAny_mkText (wpAny_bind (wpAny_bind (wpAny_bind (T.here (s := ⟨h, g, d, t + 1, os⟩) ((looks_findIn X sa).here (s := ⟨h, g, d, t + 1, os⟩) (wpAny_holding ?_)))))))
  rw [PySem.F.store_object.slot.bind]
  refine wpAny_bind (wpAny_pure (wpAny_bind (wpAny_call ?_)))
  refine codeAny_call_builtin SX.slot.plain SX.entry (ff_check_sa hC hx hc (ff_store hC (looks_findIn X hB) I hw fun h' tk' S => ?_))
  exact wpAny_pure (wpAny_pure (hq h' tk' S))
end
end Mine

namespace Mine

/-- the body of the exception's __init__ -/
def excBody (p : Nat → Pos) : List Stmt := [.Expr (.Call (.Attribute (.Name "Exception" (p 0)) "__init__" (p 1)) [.Name "self" (p 2), .Name "what" (p 3)] [] (p 4)) (p 5),
  .Assign [.Attribute (.Name "self" (p 6)) "what" (p 7)] (.Name "what" (p 8)) (p 9), .Assign [.Attribute (.Name "self" (p 10)) "at" (p 11)] (.Name "at" (p 12)) (p 13)]

structure FInit (K : Frag) (fI : Addr) : Prop where
  it : ∃ (oc : Value) (od : Option Addr) (sl : Array (Option Value)) (name qual : Str) (params : Arguments) (p : Nat → Pos) (scope : Scope) (dV kV doc pm : Value) (an : Option Addr) (cdv ct vAt : Value),
    K.lookup fI = some ⟨oc, od, .func (fnX name qual params (excBody p) scope [] dV kV doc pm an cdv ct), sl⟩ ∧ codeIn K cdv qual = true ∧
    (∀ (s : Shared) (a b : Value), K.In s.heap → BindsTo s (fnX name qual params (excBody p) scope [] dV kV doc pm an cdv ct) ⟨[a, b], []⟩ [(("self" : Str), a), (("what" : Str), b), (("at" : Str), vAt)]) ∧
    scope.names.lookup ("self" : Str) = some .local ∧ scope.names.lookup ("what" : Str) = some .local ∧ scope.names.lookup ("at" : Str) = some .local ∧ scope.names.lookup ("Exception" : Str) = some .globalImplicit ∧ (∀ x ∈ scope.names, x.2 ≠ .cell) ∧
    scope.isCoroutine = false ∧ scope.isGenerator = false ∧ scope.kind = .function ∧ ((p 1).endLine == (p 4).line) = true

structure FFOk (K : Frag) (C : Addr) : Prop where
  cls : ∃ nm q N PE bs sn sub ab col dd k0 k1 k2 k3 k5, K.lookup C = some (excClassObj nm q C N bs (bmX PE) true sn sub ab col dd k0 k1 k2 k3 k5 "Exception.__new__")
  init : ∃ fI, findIn K (.ref C) "__init__" = some (some (.ref fI)) ∧ isFn K (.ref fI) = true ∧ FInit K fI
  sa : findIn K (.ref C) "__setattr__" = some (some (.builtin "object.__setattr__"))
  fW : findIn K (.ref C) "what" = some none
  fA : findIn K (.ref C) "at" = some none
  fc : findCls K (.type "Exception") (.type "type") "__init__" = some (.val (.builtin "Exception.__init__"))

section
variable {prog : Program} {w : World} {A : Around} {E : Value → Shared → Prop} {K : Frag} {C : Addr} {mg mb : Str → Option Value}

theorem ff_make {s : Shared} {v : Value} {Q : Value → Shared → Prop} (X : K.In s.heap) (O : FFOk K C) (G : s.heap.Ns mainGlobals mg) (B : s.heap.Ns builtinsNs mb) (gE : mg "Exception" = none) (bE : mb "Exception" = some (.type "Exception"))
    (lim : s.heap.NoLimit) (room : A.depth + 1 < recursionLimit)
    (hq : ∀ h' tk e t1 dx, Kept s.heap h' → s.heap.get? e = none → h'.get? e = some (excO C (some dx) t1) → Q (.ref e) { s with heap := h', toks := tk }) :
    wpAny (model prog w) A (call (.ref C) [v]) Q E s := by
  obtain ⟨hh, g, d, t, os⟩ := s
  dsimp only at X G B lim hq
  obtain ⟨nm, q, N, PE, bs, sn, sub, ab, col, dd, k0, k1, k2, k3, k5, hC⟩ := O.cls
  obtain ⟨fI, hi, hf, ⟨oc, od, sl, name, qual, params, p, scope, dV, kV, doc, pm, an, cdv, ct, vAt, hl, hcd, hb, n1, n2, n3, n4, ncell, hco, hgen, hk, hline⟩⟩ := O.init
  have hC0 := X _ _ hC
  refine ff_call (hrest := by rw [sizeLine_eq]; exact Nat.le_of_ble_eq_true rfl) hC0 (looks_findIn X hi) (fun self => bind_fn X self (beq_iff_eq.mp hf)) fun H kH eH szH => ?_
  refine wpAny_call ?_
  have XH := X.keeps kH
  refine codeAny_call_def (fd := fnX name qual params (excBody p) scope [] dV kV doc pm an cdv ct) (body := excBody p) (binds := [(("self" : Str), .ref (hh.objs.size + 1)), (("what" : Str), v), (("at" : Str), vAt)]) room (XH _ _ hl) rfl (lim.keeps kH) (codeRec_of XH hcd) rfl (hb _ _ _ XH) ncell ?_ ?_ hco hgen hk
  · intro y hy
    simp only [List.mem_cons, List.not_mem_nil, or_false] at hy
    rcases hy with rfl | rfl | rfl
    · exact n1
    · exact n2
    · exact n3
  · intro h₁ hns hk₁
    have live : ∀ b o, hh.get? b = some o → b ≠ hh.objs.size + 1 ∧ b ≠ H.objs.size := fun b o e => ⟨Nat.ne_of_lt (Nat.lt_succ_of_lt (Heap.lt_size e)), Nat.ne_of_lt (Nat.lt_of_lt_of_le (Heap.lt_size e) (by rw [szH]; exact Nat.le_add_right _ _))⟩
    have Le : H.objs.size ≠ hh.objs.size + 1 := by rw [szH]; lia
    have kh₁ : Kept hh h₁ := fun b o e => hk₁ b o (kH b o e)
    have hkf : ∀ f' L', (callEnv (fnX name qual params (excBody p) scope [] dV kV doc pm an cdv ct) L' f').scope.kind = .function := fun _ _ => hk
    unfold excBody
    refine wpAny_execs_cons ?_
    refine ff_expr (mg := mg) (mb := mb) (s := ⟨h₁, _, _, _, _⟩) (X.keeps kh₁) O.fc (kh₁ _ _ hC0) (hk₁ _ _ eH) hk rfl rfl n4 n1 n2 (G.keeps kh₁) (B.keeps kh₁) gE bE hns rfl rfl hline (by unfold interactive; show (scope.kind == _ && _) = false; rw [hk]; rfl) fun h2 t1 tk k2 e2 => ?_
    have hns2 := hns.at' fun o e => k2 H.objs.size o Le e
    have kh2 : Kept hh h2 := fun b o e => k2 b o (live b o e).1 (kh₁ b o e)
    refine wpAny_execs_cons ?_
    refine plainObj_wpAny_Assign_Attribute (ld_arg (v := v) (hkf _ _) n2 hns2 rfl ?_)
    refine ld_arg (v := .ref (hh.objs.size + 1)) (hkf _ _) n1 hns2 rfl ?_
    refine ff_set (s := ⟨h2, _, _, _, _⟩) (mA := fun _ => none) (X.keeps kh2) (kh2 _ _ hC0) O.sa O.fW ⟨_, e2, rfl, (fun _ => nofun), .inl ⟨rfl, fun _ => rfl⟩⟩ (fun y hy => absurd rfl hy) fun h3 tk3 S3 => ?_
    have k3 : KeptBut (hh.objs.size + 1) h2 h3 := fun b o hb e => S3.keep b o hb (fun o₀ dx e1 e3 => by rw [e2] at e1; cases e1; cases e3) e
    have kh3 : Kept hh h3 := fun b o e => k3 b o (live b o e).1 (kh2 b o e)
    have hns3 := hns2.at' fun o e => k3 H.objs.size o Le e
    obtain ⟨o3, e3, c3, d3, s3, _⟩ := S3.same _ e2
    obtain ⟨o3', e3', hc3, hnc3, hd3⟩ := id S3.inst
    rw [e3] at e3'; cases e3'
    rcases hd3 with ⟨_, hno⟩ | ⟨dx, hdx, hne, hn3⟩
    · have := hno ("what" : Str)
      simp at this
    have fdx : h2.get? dx = none := S3.new _ _ _ e2 e3 rfl hdx
    have ndx : ∀ b o, h2.get? b = some o → b ≠ dx := fun b o e q => by rw [q, fdx] at e; cases e
    refine wpAny_execs_cons ?_
    refine plainObj_wpAny_Assign_Attribute (ld_arg (v := vAt) (hkf _ _) n3 hns3 rfl ?_)
    refine ld_arg (v := .ref (hh.objs.size + 1)) (hkf _ _) n1 hns3 rfl ?_
    refine ff_set (s := ⟨h3, _, _, _, _⟩) (X.keeps kh3) (kh3 _ _ hC0) O.sa O.fA S3.inst (fun y hy => ?_) fun h4 tk4 S4 => ?_
    · by_cases q : y = ("what" : Str)
      · rw [q]; exact List.mem_singleton.mpr rfl
      · exact absurd (if_neg q) hy
    have kh4 : Kept hh h4 := fun b o e => S4.keep b o (live b o e).1 (fun o₀ dy e1 e4 => by rw [e3] at e1; cases e1; rw [hdx] at e4; cases e4; exact ndx b o (kh2 b o e)) (kh3 b o e)
    obtain ⟨o4, e4, c4, d4, s4, dd4⟩ := S4.same _ e3
    refine wpAny_execs_nil ?_
    refine ⟨rfl, ?_⟩
    refine hq h4 _ (hh.objs.size + 1) t1 dx kh4 (Heap.get?_none_of_le (Nat.le_succ _)) ?_
    rw [e4]
    obtain ⟨a1, a2, a3, a4⟩ := o4
    have q1 := c4.trans c3
    have q2 := d4.trans d3
    have q3 := s4.trans s3
    have q4 := dd4 dx hdx
    dsimp only at q1 q2 q3 q4
    subst q1 q2 q3 q4
    rfl
end
end Mine

namespace Mine

theorem raise_made {M : Model} {A : Around} {E : Value → Shared → Prop} {env : Env} {s : Shared} {x : Sem Value} {Q : Flow → Shared → Prop} {C : Addr} (hh : A.handled = none)
    (h : wpAny M A x (fun v s₁ => ∃ (e t : Addr) (dx : Option Addr) (nm q : Str) (N PE : Addr) (bs : List Value) (sn : List Str) (sub : List Value) (ab : Bool) (col : Option Bool) (dd : Option Addr) (k0 k1 k2 k3 k5 : Option Value),
      v = .ref e ∧ s₁.heap.get? C = some (excClassObj nm q C N bs (bmX PE) true sn sub ab col dd k0 k1 k2 k3 k5 "Exception.__new__") ∧ s₁.heap.get? e = some (excO C dx t) ∧ E (.ref e) s₁) E s) :
    wpAny M A (raiseStmt env (some x) none) Q E s := by
  unfold raiseStmt
  refine wpAny_bind (wpAny_mono h (fun v s₁ h₁ => ?_) fun _ _ x => x)
  obtain ⟨e, t, dx, nm, q, N, PE, bs, sn, sub, ab, col, dd, k0, k1, k2, k3, k5, rfl, hC, he, hE⟩ := h₁
  obtain ⟨hp, g, d, tk, os⟩ := s₁
  have hcB : (Value.ref C :: bmX PE).contains (.type "BaseException") = true := by simp
  repeat (first | with_reducible refine wpAny_loadPart_at he ?_ | with_reducible refine wpAny_loadPart_at hC ?_ | (with_reducible refine wpAny_isSubtype_exc hC ?_; rw [hcB]) | wp_step)
  exact wpAny_raiseNew_none hh hE

/-- the exception as it left the raise -/
def ExRaw (Γ : Cx) (C : Addr) : ExPost := fun _ s e s' => ∃ (a t : Addr) (dx : Option Addr) (h' : Heap) (tk : Nat), e = .ref a ∧ s' = { s with heap := h', toks := tk } ∧ Γ.base.get? a = none ∧ h'.get? a = some (excO C dx t) ∧
  (∃ o, h'.get? Γ.env.locals = some o ∧ ∀ vs, o.data ≠ .fields vs) ∧ (∀ b o, Γ.base.get? b = some o → h'.get? b = some o)

theorem ExRaw.ok (Γ : Cx) (C : Addr) : ExOk Γ (ExRaw Γ C) := by
  rintro g s g' h' tk e s' t ⟨a, t0, dx, h2, tk2, rfl, rfl, r⟩
  exact ⟨a, t0, dx, h2, tk2, rfl, rfl, r⟩

section
variable {Γ : Cx} {σ : St}
theorem WS.raiseFF {x : Str} {np cpos pos : Pos} {txt : Str} {k : Nat} {sp : Pos} {C : Addr} {Q : Out → St → Prop} (O : FFOk Γ.K C) (hk : Γ.env.kindOf x = some .globalImplicit) (hf : Γ.mg x = some (.ref C)) (hkeep : keepIn Γ.K (.ref C) = true)
    (gE : Γ.mg "Exception" = none) (bE : Γ.mb "Exception" = some (.type "Exception")) (hlv : 2 ≤ Γ.lv) (hdb : (x == ("__debug__" : Str)) = false := by decide) :
    WS Γ (ExRaw Γ C) (.Raise (some (.Call (.Name x np) [.Constant (.str txt) k sp] [] cpos)) none pos) Q σ := fun g s a => by
  obtain ⟨nm, q, N, PE, bs, sn, sub, ab, col, dd, k0, k1, k2, k3, k5, hC⟩ := id O.cls
  have hx : wpAny (model Γ.prog Γ.w) Γ.A (eval (.Call (.Name x np) [.Constant (.str txt) k sp] [] cpos) Γ.env) (fun v s₁ => ∃ (e t : Addr) (dx : Option Addr) (nm q : Str) (N PE : Addr) (bs : List Value) (sn : List Str) (sub : List Value) (ab : Bool) (col : Option Bool) (dd : Option Addr) (k0 k1 k2 k3 k5 : Option Value),
      v = .ref e ∧ s₁.heap.get? C = some (excClassObj nm q C N bs (bmX PE) true sn sub ab col dd k0 k1 k2 k3 k5 "Exception.__new__") ∧ s₁.heap.get? e = some (excO C dx t) ∧ ExRaw Γ C g s (.ref e) s₁) (ExRaw Γ C g s) s := by
    refine wpAny_Call_NameR (eval_global a hk hf ?_ hdb)
    refine callWith_K a.inK hkeep ?_ (starEach_cons rfl) (backTo_plain _ _ _ rfl)
    refine wpAny_neverE (wpAny_mono (WEs.items (Q := fun ds _ => ds = [.str txt]) cpos [.Constant (.str txt) k sp] rfl (WE.const_str rfl) g s a) (fun vs s' p => ?_) fun _ _ f => f)
    obtain ⟨g', σ', ds, h', tk, rfl, t, a', r, rfl⟩ := p
    refine ⟨a'.inK, ?_⟩
    obtain ⟨v, vs', rfl, r1, r2⟩ := r
    cases r2
    have room : Γ.A.depth + 1 < recursionLimit := by have := a.ok.dp; lia
    refine ff_make (mg := Γ.mg) (mb := Γ.mb) a'.inK O (a.ok.g.keeps a'.keep) (a.ok.b.keeps a'.keep) gE bE (a.ok.lim.keeps a'.keep) room fun h2 tk2 e t1 dx kp en ee => ?_
    refine ⟨e, t1, some dx, nm, q, N, PE, bs, sn, sub, ab, col, dd, k0, k1, k2, k3, k5, rfl, kp _ _ (a'.inK _ _ hC), ee, ?_⟩
    obtain ⟨m, hn, _⟩ := a'.loc
    obtain ⟨oL, es, ep, hoL, hdL, _⟩ := hn
    refine ⟨e, t1, some dx, h2, tk2, rfl, rfl, ?_, ee, ⟨oL, kp _ _ hoL, fun vs q => by rw [hdL] at q; cases q⟩, fun b o q => kp b o (a'.keep b o q)⟩
    cases q : Γ.base.get? e with
    | none => rfl
    | some o => have := a'.keep e o q; rw [show h'.get? e = none from en] at this; cases this
  rw [arm_exec_Raise]
  first
    | exact wpAny_bind (wpAny_standAt (raise_made a.ok.hd (wpAny_bind (wpAny_mono hx (fun v s₃ h₃ => wpAny_bind (wpAny_standAt (wpAny_pure h₃))) fun _ _ x => x))))
    | (simp only [evalOpt, Option.map]; exact wpAny_bind (wpAny_standAt (raise_made a.ok.hd (wpAny_bind (wpAny_mono hx (fun v s₃ h₃ => wpAny_bind (wpAny_standAt (wpAny_pure h₃))) fun _ _ x => x)))))
end
end Mine

namespace Mine

section
variable {M : Model} {A : Around} {E : Value → Shared → Prop} {s : Shared}

theorem setFlight_W {base : Heap} {l : List Env} {e : Addr} {cls a0 fl : Value} {f : Option Addr} {Q : Unit → Shared → Prop}
    (hkb : base.StaysIn s.heap) (hl : s.heap.FunFrames base l) (ht : s.heap.TracedAtW base e cls a0 fl)
    (h : ∀ h', base.StaysIn h' → h'.FunFrames base l → h'.TracedAtW base e cls a0 (f.elim .none fun f => rawInt f) → s.heap.UpToSlots h' → Q () { s with heap := h' }) :
    wpAny M A (setFlight (.ref e) f) Q E s := by
  obtain ⟨oe, vs, T, oT, ts, he, hcls, hd, h1, hnT, hTe, hT, hdT, h3⟩ := ht
  have hsz3 : 3 < ts.size := (Array.getElem?_eq_some_iff.mp h3).1
  have other : ∀ b, b ≠ T → (s.heap.update T (Obj.mapFields (·.setIfInBounds 3 (f.elim Value.none fun f => rawInt f)))).get? b = s.heap.get? b :=
    fun b hb => Heap.get?_update_other _ _ (Ne.symm hb)
  have noRecord : ∀ b o, s.heap.get? b = some o → (∀ vs, o.data ≠ .fields vs) → b ≠ T := fun b o hb hnf q => by
    rw [q, hT] at hb; injection hb with hb; subst hb; exact hnf ts hdT
  unfold setFlight
  refine wpAny_bind (wpAny_field he hd h1 ?_)
  rw [if_pos (show (Value.ref T != Value.none) = true from by simp)]
  refine wpAny_setField hT hdT hsz3 (h _ (fun b o hbo => (other b fun q => by rw [q, hnT] at hbo; cases hbo).trans (hkb b o hbo))
    (hl.of_keeps fun b o hb hnf => ⟨o, (other b (noRecord b o hb hnf)).trans hb, rfl⟩) ?_ fun b o hb hnf => ⟨o.slots, (other b (noRecord b o hb hnf)).trans hb⟩)
  exact ⟨oe, vs, T, _, _, (other e (Ne.symm hTe)).trans he, hcls, hd, h1, hnT, hTe, Heap.get?_update_self _ hT (Obj.isFreed_of_fields (Obj.data_mapFields hdT _)), Obj.data_mapFields hdT _, by simp [hsz3]⟩

/-- back among the statement's readers: the flight is the frame's own -/
theorem cameBack_W {base : Heap} {env : Env} {outer : List Env} {L e : Addr} {cls a0 : Value} (hf : env.frame = some L) (hh : Heap.HeldW base (env :: outer) e cls a0 L s.heap)
    (hQ : ∀ h', Heap.HeldW base (env :: outer) e cls a0 L h' → s.heap.UpToSlots h' → E (.ref e) { s with heap := h' }) : cameBackBy M A env E (.ref e) s := by
  obtain ⟨f1, f2, f3, oe, vs, T, oT, ts, he, hcls, hd, h1, hnT, hTe, hT, hdT, h3⟩ := id hh
  unfold cameBackBy
  refine wpAny_bind (wpAny_field he hd h1 ?_)
  rw [if_neg (show ¬ ((Value.ref T == Value.none) = true) from by simp)]
  rw [hf]
  exact setFlight_W hh.1 hh.2.2.1 hh.2.2.2 fun h' k1 k2 k3 k4 => hQ h' ⟨k1, f2, k2, k3⟩ k4

/-- the first note of a made exception -/
theorem note_first {base : Heap} {env : Env} {outer : List Env} {L C e t : Addr} {dx : Option Addr} {Q : Unit → Shared → Prop}
    (hfr : A.frames = some (env :: outer)) (hl : s.heap.FunFrames base (env :: outer)) (hf : env.frame = some L) (he : s.heap.get? e = some (excO C dx t)) (hkb : base.StaysIn s.heap) (hen : base.get? e = none)
    (h : ∀ h', Heap.HeldW base (env :: outer) e (.ref C) (.ref t) L h' → s.heap.UpToSlots h' → Q () { s with heap := h' }) : wpAny M A (noteFrame (.ref e) env) Q E s := by
  unfold noteFrame
  simp only [hf]
  refine wpAny_bind (wpAny_field he rfl (x := .none) rfl ?_)
  rw [if_neg (by decide)]
  exact wpAny_entryW hfr hl hf he hkb hen rfl (by show 1 < 6; decide) rfl fun h' ⟨x1, x2, x3, x4⟩ => h h' ⟨x1, hen, x2, x3⟩ x4
end

abbrev frs (l : List Env) : List Addr := l.filterMap (·.frame)

/-- the frames above, as objects -/
def OutFr (outer : List Env) (h : Heap) : Prop :=
  ∀ env ∈ outer, env.scope.kind ≠ .module ∧ ∃ L o, env.frame = some L ∧ h.get? L = some o ∧ (∀ vs, o.data ≠ .fields vs)

/-- the exception, with this frame's note -/
def ExHeld (Γ : Cx) (C : Addr) (outer : List Env) : ExPost := fun _ s e s' => ∃ (a t : Addr) (h' : Heap) (tk : Nat) (B : Heap), e = .ref a ∧ s' = { s with heap := h', toks := tk } ∧ Γ.base.get? a = none ∧
  (∀ b o, b ∉ frs outer → Γ.base.get? b = some o → B.get? b = some o) ∧ Γ.base.UpToSlots h' ∧ Heap.HeldW B (Γ.env :: outer) a (.ref C) (.ref t) Γ.env.locals h'

theorem ExHeld.ok (Γ : Cx) (C : Addr) (outer : List Env) : ExOk Γ (ExHeld Γ C outer) := by
  rintro g s g' h' tk e s' x ⟨a, t, h2, tk2, B, rfl, rfl, r⟩
  exact ⟨a, t, h2, tk2, B, rfl, rfl, r⟩

theorem funFrames_outs {h base : Heap} : ∀ {l : List Env}, (∀ env ∈ l, env.scope.kind ≠ .module ∧ ∃ L o, env.frame = some L ∧ h.get? L = some o ∧ (∀ vs, o.data ≠ .fields vs) ∧ base.get? L = none) → h.FunFrames base l
  | [], _ => trivial
  | env :: r, H => by
    obtain ⟨k, L, o, hf, e, nf, n⟩ := H env (.head _)
    exact ⟨k, ⟨L, o, hf, n, e, nf⟩, funFrames_outs fun e he => H e (.tail _ he)⟩

theorem mem_frs {l : List Env} {env : Env} {L : Addr} (he : env ∈ l) (hf : env.frame = some L) : L ∈ frs l := List.mem_filterMap.mpr ⟨env, he, hf⟩

/-- the raise leaves the loop's body -/
theorem ExRaw.noted {Γ : Cx} {C : Addr} {outer : List Env} {M : Model} (hk : Γ.env.scope.kind = .function) (hfr : Γ.A.frames = some (Γ.env :: outer)) (hf : Γ.env.frame = some Γ.env.locals) (hne : Γ.base.get? Γ.env.locals = none)
    (O : OutFr outer Γ.base) : ∀ g s e s', ExRaw Γ C g s e s' → notedBy M Γ.A Γ.env (fun e s' => cameBackBy M Γ.A Γ.env (ExHeld Γ C outer g s) e s') e s' := by
  rintro g s e s' ⟨a, t, dx, h2, tk2, rfl, rfl, hn, he, ⟨oL, hoL, nfL⟩, kb⟩
  have hkm : Γ.env.scope.kind ≠ .module := by rw [hk]; decide
  have fa : ∀ env ∈ Γ.env :: outer, env.scope.kind ≠ .module ∧ ∃ L o, env.frame = some L ∧ h2.get? L = some o ∧ ∀ vs, o.data ≠ .fields vs := by
    intro env henv
    rcases List.mem_cons.mp henv with rfl | henv
    · exact ⟨hkm, _, oL, hf, hoL, nfL⟩
    · obtain ⟨k, L, o, hfL, e, nf⟩ := O env henv
      exact ⟨k, L, o, hfL, kb L o e, nf⟩
  have ff : h2.FunFrames (hideAll h2 (a :: frs (Γ.env :: outer))) (Γ.env :: outer) := funFrames_outs fun env henv => by
    obtain ⟨k, L, o, hfL, e, nf⟩ := fa env henv
    exact ⟨k, L, o, hfL, e, nf, hideAll_none _ (List.mem_cons_of_mem _ (mem_frs henv hfL))⟩
  refine note_first (s := { s with heap := h2, toks := tk2 }) hfr ff hf he (fun b o q => of_hideAll _ q) (hideAll_none _ List.mem_cons_self) fun h3 H3 u3 => ?_
  refine cameBack_W (s := { s with heap := h3, toks := tk2 }) hf H3 fun h4 H4 u4 => ?_
  refine ⟨a, t, h4, tk2, _, rfl, rfl, hn, fun b o hnf e => ?_, (Heap.UpToSlots.of_keeps kb).trans (u3.trans u4), H4⟩
  refine hideAll_get _ (kb b o e) fun q => ?_
  rcases List.mem_cons.mp q with rfl | q
  · rw [hn] at e; cases e
  · obtain ⟨env, henv, hfe⟩ := List.mem_filterMap.mp q
    rcases List.mem_cons.mp henv with rfl | henv
    · rw [hf] at hfe; cases hfe; rw [hne] at e; cases e
    · exact hnf (mem_frs henv hfe)
end Mine

namespace Mine

/-- leaving a frame whose note stands -/
theorem leaves_heldU {M : Model} {A : Around} {E : Value → Shared → Prop} {s : Shared} {base : Heap} {env : Env} {outer : List Env} {L e : Addr} {cls a0 : Value} {Q : Unit → Shared → Prop} (hf : env.frame = some L)
    (hh : Heap.HeldW base (env :: outer) e cls a0 L s.heap) (hQ : ∀ h', Heap.FlyingW base outer e cls a0 h' → s.heap.UpToSlots h' → Q () { s with heap := h' }) : wpAny M A (leaving env (.ref e)) Q E s := by
  unfold leaving
  refine wpAny_bind (wpAny_noteFrame_againW hf hh.2.2.2 ?_)
  refine wpAny_landsW hh fun h' hfl up => ?_
  obtain ⟨k1, k2, ⟨_, _, k3⟩, k4⟩ := hfl
  exact hQ h' ⟨k1, k2, k3, k4⟩ up

section
variable {Γ : Cx} {E : ExPost} {σ : St} {g : Gh} {s : Shared}

/-- the ground moves up -/
theorem At.rebase {h : Heap} (a : At Γ g σ h) (B : Heap) (h1 : ∀ b o, Γ.base.get? b = some o → B.get? b = some o) (h2 : ∀ b o, B.get? b = some o → h.get? b = some o) (h3 : ∀ b, b ∈ g.al ∨ b ∈ Γ.mu → B.get? b = none) : At { Γ with base := B } g σ h where
  ok := ⟨a.ok.kind, a.ok.glob, a.ok.bi, a.ok.locMu, a.ok.cellL, a.ok.inj, a.ok.full, a.ok.hd, a.ok.un, a.ok.dp, a.ok.g.keeps h1, a.ok.b.keeps h1, a.ok.lim.keeps h1,
    fun d hd => (by obtain ⟨f, o, pm, cd, doc, e1, e2, e3, e4⟩ := a.ok.fn d hd; exact ⟨f, o, pm, cd, doc, e1, h1 _ _ e2, e3, e4.keeps h1⟩), a.ok.kin.keeps h1⟩
  keep := h2
  loc := a.loc
  cel := a.cel
  len := a.len
  own := a.own
  nd := a.nd
  mz := a.mz
  lo := h3
  up := a.up
  cz := a.cz

/-- the frame's own object changes its slots -/
theorem At.slots {h h' : Heap} (a : At Γ g σ h) (hk : ∀ b o, b ≠ Γ.env.locals → h.get? b = some o → h'.get? b = some o) (up : h.UpToSlots h') : At Γ g σ h' ∧ Tr Γ g h g h' := by
  have nz : ∀ b, g.z b → b ≠ Γ.env.locals := fun b zb q => (a.mz _ a.ok.locMu).1 (q ▸ zb)
  have nal : ∀ b, b ∈ g.al → b ≠ Γ.env.locals := fun b hb q => (a.mz _ a.ok.locMu).2 (q ▸ hb)
  have kz : ∀ b o, g.z b → h.get? b = some o → h'.get? b = some o := fun b o zb e => hk b o (nz b zb) e
  have kc : ∀ x c, Γ.env.cells.lookup x = some c → ∀ o, h.get? c = some o → h'.get? c = some o := fun x c hc o e => hk c o (a.ok.cellL x c hc) e
  have lv : ∀ b, (h.get? b).isSome = true → (h'.get? b).isSome = true := fun b e => by
    obtain ⟨o, e⟩ := Option.isSome_iff_exists.mp e
    by_cases q : b = Γ.env.locals
    · subst q
      obtain ⟨m, hn, _⟩ := a.loc
      exact ns_live (up.ns hn)
    · exact live_of (hk b o q e)
  refine ⟨⟨a.ok, fun b o e => hk b o (fun q => ?_) (a.keep b o e), ?_, ?_, a.len, ?_, a.nd, a.mz, a.lo, fun b hb => lv b (a.up b hb), a.cz⟩, ⟨fun _ z => z, ⟨[], by simp, by simp⟩, fun _ z => .inl z, kz, fun b o hm ha e => hk b o (fun q => hm (q ▸ a.ok.locMu)) e, lv⟩⟩
  · rw [q, a.lo _ (.inr a.ok.locMu)] at e; cases e
  · obtain ⟨m, hn, hl⟩ := a.loc
    refine ⟨m, up.ns hn, fun x d hx => ?_⟩
    obtain ⟨v, hv, r⟩ := hl x d hx
    exact ⟨v, hv.imp id (fun ⟨k, c, hc, o, e, dd⟩ => ⟨k, c, hc, o, kc x c hc o e, dd⟩), RepV.mono (fun _ z => z) kz (fun _ _ e => e) r⟩
  · intro x c hc
    obtain ⟨ov, o, e, dd⟩ := a.cel x c hc
    exact ⟨ov, o, kc x c hc o e, dd⟩
  · intro i o hi
    obtain ⟨b, hb, r, z⟩ := a.own i o hi
    exact ⟨b, hb, r.mono (fun _ z => z) kz (fun o e => hk b o (nal b (List.mem_of_getElem? hb)) e), z⟩

/-- what flies out of a call -/
def Flown (C : Addr) (l : List Env) (s : Shared) (e : Value) (s' : Shared) : Prop := ∃ (a t : Addr) (h' : Heap) (tk : Nat) (B : Heap), e = .ref a ∧ s' = { s with heap := h', toks := tk } ∧
  (∀ b o, b ∉ frs l → s.heap.get? b = some o → B.get? b = some o) ∧ s.heap.UpToSlots h' ∧ Heap.FlyingW B l a (.ref C) (.ref t) h'

/-- a call that raises -/
theorem call_raise {d : DefRec} {ps : List Str} {f C : Addr} {ds : List D} {vs : List Value} {l : List Env} {P : Value → Shared → Prop} (K : DefOk d ps) (hd : d ∈ Γ.recs) (hf : Γ.mg d.name = some (.ref f)) (hlv : 1 ≤ Γ.lv) (hlen : ds.length = ps.length)
    (hnc : ∀ n, ((cellsFrom n d.scope.names []).map (·.1)).Nodup) (a : At Γ g σ s.heap) (r : Reps Γ.toWd s.heap g.z ds vs)
    (hb : ∀ (B : Heap) L f cd, OutFr l B → B.get? L = none → WX ({ Γ with base := B }.callee d L f cd 0) (ExHeld ({ Γ with base := B }.callee d L f cd 0) C l) d.body (fun _ _ => False) ⟨ploc ps ds, []⟩) (O : OutFr l s.heap) :
    wpAny (model Γ.prog Γ.w) Γ.A (call (.ref f) vs) P (Flown C l s) s := by
  obtain ⟨f', o, pm, cd, doc, e1, e2, e3, e4⟩ := a.ok.fn d hd
  rw [hf] at e1; cases e1
  have r' : RepVs Γ.toWd ⟨g.z, []⟩ s.heap ds vs := by
    clear hlen hb
    induction ds generalizing vs with
    | nil => exact r
    | cons d ds ih =>
      unfold Reps at r; obtain ⟨v, ws, rfl, r1, r2⟩ := r
      exact ⟨v, ws, rfl, RepV.of r1, ih r2⟩
  have hvl : vs.length = ps.length := by rw [r.length, hlen]
  have hroom : Γ.A.depth < recursionLimit := by have := a.ok.dp; lia
  refine wpAny_call (call_cells hroom (a.keep _ _ e2) e3 (a.ok.lim.keeps a.keep) (e4.keeps a.keep) (K.bind vs hvl pm cd doc) ?_ (fun h₁ tk F X => ?_) K.co K.gen K.kind)
  · rintro ⟨x, v⟩ hx
    have hp : x ∈ ps := (List.of_mem_zip hx).1
    rcases K.kinds x hp with q | q
    · exact .inl q
    · exact .inr ⟨q, cellsFrom_some d.scope.names _ [] (.inl q)⟩
  · have a1 := a.enterCall (cd := cd) (f := f) (pls := []) (owns := []) K hlv hvl (hnc _) F X r' rfl (by simp) (by simp) (by simp)
    have mufresh : ∀ b ∈ (Γ.callee d s.heap.objs.size f cd 0).mu, s.heap.get? b = none := fun b hb => by
      rcases List.mem_cons.mp hb with q | q
      · subst q; exact fresh_size _
      · exact Heap.get?_none_of_le (Nat.le_of_lt (cells_above X q))
    have a2 : At ({ Γ with base := s.heap }.callee d s.heap.objs.size f cd 0) ⟨g.z, []⟩ ⟨ploc ps ds, []⟩ h₁ :=
      a1.rebase s.heap (fun b o e => a.keep b o e) (fun b o e => F.keep b o e) (fun b hb => mufresh b (hb.resolve_left (by simp)))
    refine wpAny_mono (hb s.heap s.heap.objs.size f cd O (fresh_size _) ⟨g.z, []⟩ { s with heap := h₁, toks := tk } a2) (fun fl s' p => ?_) fun e s' x => ?_
    · obtain ⟨g', σ', o, h', tk', rfl, t', a', fo, q⟩ := p
      exact q.elim
    · obtain ⟨ea, t, h2, tk2, B, rfl, rfl, hn, kp, up, H⟩ := x
      refine leaves_heldU (s := { s with heap := h2, toks := tk2 }) rfl H fun h3 H3 up3 => ?_
      exact ⟨ea, t, h3, tk2, B, rfl, rfl, kp, up.trans up3, H3⟩
end
end Mine

namespace Mine

def fnAt (i : Nat) : DefRec := match PySem.Challenge.pw_nn0194_01.main.body[i]? with
  | some (.FunctionDef name args body _ _ _ scope _ _ pos) => ⟨name, args, body, scope, pos⟩
  | _ => ⟨Str.empty, ⟨[], [], none, [], [], none, []⟩, [], { kind := .function, names := [], isGenerator := false, isCoroutine := false }, ⟨0, 0, 0, 0⟩⟩

theorem callee_stor {Γ : Cx} {d : DefRec} {L f : Addr} {cd : Value} {k : Nat} {x : Str} (h : d.scope.names.lookup x = some .local ∨ d.scope.names.lookup x = some .cell) : Stor (Γ.callee d L f cd k) x := by
  rcases h with h | h
  · exact .inl h
  · obtain ⟨c, hc⟩ := Option.isSome_iff_exists.mp (cellsFrom_some d.scope.names (L + 1) [] (.inl h))
    exact .inr ⟨h, c, hc, List.mem_cons_of_mem _ (lookup_mem hc)⟩

theorem cells_names : ∀ (names : List (Str × NameKind)) (n m : Nat) (acc acc' : List (Str × Addr)), acc.map (·.1) = acc'.map (·.1) → (cellsFrom n names acc).map (·.1) = (cellsFrom m names acc').map (·.1)
  | [], _, _, _, _, h => h
  | (y, k) :: r, n, m, acc, acc', h => by
    unfold cellsFrom
    by_cases q : (k == .cell) = true
    · rw [if_pos q, if_pos q]; exact cells_names r _ _ _ _ (by simp [h])
    · rw [if_neg q, if_neg q]; exact cells_names r _ _ _ _ h
theorem cells_nodup {names : List (Str × NameKind)} (h : ((cellsFrom 0 names []).map (·.1)).Nodup) (n : Nat) : ((cellsFrom n names []).map (·.1)).Nodup := by
  rw [cells_names names n 0 [] [] rfl]; exact h

/-- what the defs may lean on -/
structure G0 (mg mb : Str → Option Value) (recs : List DefRec) (K : Frag) (cm : Addr) : Prop where
  bu : ∀ x ∈ (["len", "min", "max", "sum", "abs", "sorted"] : List String), mg (Str.ofString x) = none ∧ mb (Str.ofString x) = some (.builtin x)
  ty : ∀ x ∈ (["range", "bytes", "list", "dict", "zip", "int"] : List String), mg (Str.ofString x) = none ∧ mb (Str.ofString x) = some (.type x)
  fn : ∀ i ∈ [7, 8, 9, 10, 11, 12, 13, 14, 15, 16, 18, 19, 20, 21, 22, 23, 24, 25, 26, 27], fnAt i ∈ recs ∧ ∃ f, mg (fnAt i).name = some (.ref f)
  most : ∃ t, mg "MOST_LENGTH" = some (.int 4 t)
  cls : mg "CMap" = some (.ref cm)
  keep : keepIn K (.ref cm) = true
  cmOk : CmOk K cm
abbrev GE (Γ : Cx) : Prop := G0 Γ.mg Γ.mb Γ.recs Γ.K Γ.cm

theorem ScOk.of {Γ : Cx} {scope : Scope} (h : (scope.names.all fun y => (y.2 != .cell) && (y.2 != .free || Γ.env.kindOf y.1 == some .cell) && (y.2 != .local || scope.names.lookup y.1 == some .local)) = true) (hk : scope.kind = .function) : ScOk Γ scope := by
  have all : ∀ y ∈ scope.names, y.2 ≠ .cell ∧ (y.2 = .free → Γ.env.kindOf y.1 = some .cell) ∧ (y.2 = .local → scope.names.lookup y.1 = some .local) := fun y hy => by
    have := List.all_eq_true.mp h y hy
    simp only [Bool.and_eq_true, Bool.or_eq_true, bne_iff_ne, beq_iff_eq] at this
    exact ⟨this.1.1, fun e => this.1.2.resolve_left fun q => q e, fun e => this.2.resolve_left fun q => q e⟩
  exact ⟨fun y hy => (all y hy).1, hk, fun y hy => (all y hy).2.1, fun y hy => (all y hy).2.2⟩

theorem loc_same {σ : St} {x : Str} {d : D} : (σ.set x d).loc x = some d := by unfold St.set; simp
theorem loc_ne {σ : St} {x y : Str} {d d' : D} (h : σ.loc y = some d') (hne : (y == x) = false := by decide) : (σ.set x d).loc y = some d' := by
  unfold St.set
  have : ¬ y = x := by simpa using hne
  simp [this, h]

theorem loc_mk {σ : St} {o : List OO} {x : Str} {d : D} (h : σ.loc x = some d) : (St.mk σ.loc o).loc x = some d := h
theorem cl1 {Γ : Cx} {scope : Scope} {σ : St} {ow : List OO} {y t : Str} {d d' : D} (h : σ.loc y = some d') (hk : (relabel scope Γ.env).names.lookup y = some .cell) (hne : (y == t) = false) : (St.set ⟨cloc Γ scope σ, ow⟩ t d).loc y = some d' :=
  loc_ne (show cloc Γ scope σ y = some d' from by unfold cloc; rw [if_pos hk]; exact h) hne
section
variable {Γ : Cx} {σ : St}
inductive QDef (Γ : Cx) (i : Nat) (ps : List Str) (Q : D → St → Prop) (ds : List D) (σ : St) : Prop
  | mk (l : ds.length = ps.length) (o : ∀ d ∈ ds, ∀ i, d ≠ .own i) (R : D → Prop) (b : Body Γ (fnAt i) ps ds [] (fun r _ => R r)) (q : ∀ r, R r → Q r σ)
inductive QDef1 (Γ : Cx) (i : Nat) (ps : List Str) (Q : D → St → Prop) (ds : List D) (σ : St) : Prop
  | mk (j : Nat) (o : OO) (ds' : List D) (e : ds = .own j :: ds') (l : ds'.length + 1 = ps.length) (ho : ∀ d ∈ ds', ∀ i, d ≠ .own i) (hj : σ.own[j]? = some o) (R : D → OO → Prop) (b : Body Γ (fnAt i) ps (.own 0 :: ds') [o] (fun r ow => ∀ o', ow[0]? = some o' → R r o')) (q : ∀ r o', R r o' → Q r { σ with own := σ.own.set j o' })
theorem WE.bu {x : String} {px pos : Pos} {args : List Expr} {Q : D → St → Prop} (G : GE Γ) (hx : x ∈ (["len", "min", "max", "sum", "abs", "sorted"] : List String)) (hk : Γ.env.kindOf (Str.ofString x) = some .globalImplicit)
    (h : WEs Γ args (QOk Γ (.builtin x) Q) σ) (hs : args.all notStar = true := by rfl) (hd : (Str.ofString x == ("__debug__" : Str)) = false := by decide) : WE Γ (.Call (.Name (Str.ofString x) px) args [] pos) Q σ :=
  WE.callB hk (G.bu x hx).1 (G.bu x hx).2 h hs hd
theorem WE.ty {x : String} {px pos : Pos} {args : List Expr} {Q : D → St → Prop} (G : GE Γ) (hx : x ∈ (["range", "bytes", "list", "dict", "zip", "int"] : List String)) (hk : Γ.env.kindOf (Str.ofString x) = some .globalImplicit)
    (h : WEs Γ args (QOk Γ (.type x) Q) σ) (hs : args.all notStar = true := by rfl) (hd : (Str.ofString x == ("__debug__" : Str)) = false := by decide) : WE Γ (.Call (.Name (Str.ofString x) px) args [] pos) Q σ :=
  WE.callT hk (G.ty x hx).1 (G.ty x hx).2 h hs hd
/-- a def of the program, called by its name with nothing of the caller's own -/
theorem WE.def {x : Str} {px pos : Pos} {args : List Expr} {i : Nat} {ps : List Str} {Q : D → St → Prop} (G : GE Γ) (hi : i ∈ [7, 8, 9, 10, 11, 12, 13, 14, 15, 16, 18, 19, 20, 21, 22, 23, 24, 25, 26, 27]) (K : DefOk (fnAt i) ps) (hnc : ((cellsFrom 0 (fnAt i).scope.names []).map (·.1)).Nodup) (hlv : 1 ≤ Γ.lv)
    (hk : Γ.env.kindOf x = some .globalImplicit)
    (h : WEs Γ args (QDef Γ i ps Q) σ) (hx : (fnAt i).name = x := by rfl) (hs : args.all notStar = true := by rfl) (hdb : (x == ("__debug__" : Str)) = false := by decide) :
    WE Γ (.Call (.Name x px) args [] pos) Q σ := by
  obtain ⟨hd, f, hf⟩ := G.fn i hi
  refine WE.call hk (by rw [← hx]; exact hf) hx hd (WEs.mono h fun ds σ₁ q => ?_) hs hdb
  obtain ⟨hl, hown, R, hb, hq⟩ := q
  exact WCall.intro K hd hf hlv hl (cells_nodup hnc) hown hb fun r ow hr => hq r hr
/-- a def that is handed one of the caller's own as its first argument -/
theorem WE.def1 {x : Str} {px pos : Pos} {args : List Expr} {i : Nat} {ps : List Str} {Q : D → St → Prop} (G : GE Γ) (hi : i ∈ [7, 8, 9, 10, 11, 12, 13, 14, 15, 16, 18, 19, 20, 21, 22, 23, 24, 25, 26, 27]) (K : DefOk (fnAt i) ps) (hnc : ((cellsFrom 0 (fnAt i).scope.names []).map (·.1)).Nodup) (hlv : 1 ≤ Γ.lv)
    (hk : Γ.env.kindOf x = some .globalImplicit)
    (h : WEs Γ args (QDef1 Γ i ps Q) σ)
    (hx : (fnAt i).name = x := by rfl) (hs : args.all notStar = true := by rfl) (hdb : (x == ("__debug__" : Str)) = false := by decide) :
    WE Γ (.Call (.Name x px) args [] pos) Q σ := by
  obtain ⟨hd, f, hf⟩ := G.fn i hi
  refine WE.call hk (by rw [← hx]; exact hf) hx hd (WEs.mono h fun ds σ₁ q => ?_) hs hdb
  obtain ⟨j, o, ds', rfl, hl, hown, hj, R, hb, hq⟩ := q
  exact WCall.intro1 K hd hf hlv hl (cells_nodup hnc) hown hj hb fun r ow o' hr ho => hq r o' (hr o' ho)
/-- a constant of the module -/
theorem WE.most {pos : Pos} {Q : D → St → Prop} (G : GE Γ) (hk : Γ.env.kindOf "MOST_LENGTH" = some .globalImplicit) (h : Q (.int 4) σ) : WE Γ (.Name "MOST_LENGTH" pos) Q σ := fun g s a => by
  obtain ⟨t, e⟩ := G.most
  refine eval_global a hk e ?_ (by decide)
  exact (PR.pure (tk := s.toks) (d := .int 4) fun _ _ => ⟨t, rfl⟩).post a h
end
end Mine

namespace Mine
theorem len0 {vs : List Value} (h : vs.length = 0) : vs = [] := List.eq_nil_of_length_eq_zero h
theorem len1 {vs : List Value} (h : vs.length = 1) : ∃ a, vs = [a] := by
  cases vs with
  | nil => cases h
  | cons a r => exact ⟨a, by rw [len0 (Nat.succ.inj h)]⟩
theorem len2 {vs : List Value} (h : vs.length = 2) : ∃ a b, vs = [a, b] := by
  cases vs with
  | nil => cases h
  | cons a r => obtain ⟨b, rfl⟩ := len1 (Nat.succ.inj h); exact ⟨a, b, rfl⟩
theorem len3 {vs : List Value} (h : vs.length = 3) : ∃ a b c, vs = [a, b, c] := by
  cases vs with
  | nil => cases h
  | cons a r => obtain ⟨b, c, rfl⟩ := len2 (Nat.succ.inj h); exact ⟨a, b, c, rfl⟩
/-- the parameters' kinds, looked up -/
def kindsB (d : DefRec) (ps : List Str) : Bool := ps.all fun p => d.scope.names.lookup p == some .local || d.scope.names.lookup p == some .cell
theorem kindsB_ok {d : DefRec} {ps : List Str} (h : kindsB d ps = true) : ∀ p ∈ ps, d.scope.names.lookup p = some .local ∨ d.scope.names.lookup p = some .cell := fun p hp => by
  have := List.all_eq_true.mp h p hp
  simpa using this
theorem k_code_of : DefOk (fnAt 7) ["octets"] := ⟨rfl, rfl, rfl, fun vs h pm cd doc => by obtain ⟨a, rfl⟩ := len1 h; rfl, by decide, kindsB_ok (by decide +kernel)⟩
theorem c_code_of : ((cellsFrom 0 (fnAt 7).scope.names []).map (·.1)).Nodup := by decide
theorem k_code_octets : DefOk (fnAt 8) ["length", "code"] := ⟨rfl, rfl, rfl, fun vs h pm cd doc => by obtain ⟨a, b, rfl⟩ := len2 h; rfl, by decide, kindsB_ok (by decide +kernel)⟩
theorem c_code_octets : ((cellsFrom 0 (fnAt 8).scope.names []).map (·.1)).Nodup := by decide
theorem k_fitting : DefOk (fnAt 9) ["space", "octets"] := ⟨rfl, rfl, rfl, fun vs h pm cd doc => by obtain ⟨a, b, rfl⟩ := len2 h; rfl, by decide, kindsB_ok (by decide +kernel)⟩
theorem c_fitting : ((cellsFrom 0 (fnAt 9).scope.names []).map (·.1)).Nodup := by decide
theorem k_next_length : DefOk (fnAt 10) ["spaces", "octets"] := ⟨rfl, rfl, rfl, fun vs h pm cd doc => by obtain ⟨a, b, rfl⟩ := len2 h; rfl, by decide, kindsB_ok (by decide +kernel)⟩
theorem c_next_length : ((cellsFrom 0 (fnAt 10).scope.names []).map (·.1)).Nodup := by decide
theorem k_split_codes : DefOk (fnAt 11) ["cmap", "octets"] := ⟨rfl, rfl, rfl, fun vs h pm cd doc => by obtain ⟨a, b, rfl⟩ := len2 h; rfl, by decide, kindsB_ok (by decide +kernel)⟩
theorem c_split_codes : ((cellsFrom 0 (fnAt 11).scope.names []).map (·.1)).Nodup := by decide
theorem k_text_of : DefOk (fnAt 12) ["cmap", "octets"] := ⟨rfl, rfl, rfl, fun vs h pm cd doc => by obtain ⟨a, b, rfl⟩ := len2 h; rfl, by decide, kindsB_ok (by decide +kernel)⟩
theorem c_text_of : ((cellsFrom 0 (fnAt 12).scope.names []).map (·.1)).Nodup := by decide
theorem k_is_found : DefOk (fnAt 13) ["cmap", "key"] := ⟨rfl, rfl, rfl, fun vs h pm cd doc => by obtain ⟨a, b, rfl⟩ := len2 h; rfl, by decide, kindsB_ok (by decide +kernel)⟩
theorem c_is_found : ((cellsFrom 0 (fnAt 13).scope.names []).map (·.1)).Nodup := by decide
theorem k_codes_by_text : DefOk (fnAt 14) ["cmap"] := ⟨rfl, rfl, rfl, fun vs h pm cd doc => by obtain ⟨a, rfl⟩ := len1 h; rfl, by decide, kindsB_ok (by decide +kernel)⟩
theorem c_codes_by_text : ((cellsFrom 0 (fnAt 14).scope.names []).map (·.1)).Nodup := by decide
theorem k_octets_of_text : DefOk (fnAt 15) ["cmap", "text"] := ⟨rfl, rfl, rfl, fun vs h pm cd doc => by obtain ⟨a, b, rfl⟩ := len2 h; rfl, by decide, kindsB_ok (by decide +kernel)⟩
theorem c_octets_of_text : ((cellsFrom 0 (fnAt 15).scope.names []).map (·.1)).Nodup := by decide
theorem k_identity_map : DefOk (fnAt 16) [] := ⟨rfl, rfl, rfl, fun vs h pm cd doc => by obtain rfl := len0 h; rfl, by decide, kindsB_ok (by decide +kernel)⟩
theorem c_identity_map : ((cellsFrom 0 (fnAt 16).scope.names []).map (·.1)).Nodup := by decide
theorem k_law_draw : DefOk (fnAt 18) ["pen", "many"] := ⟨rfl, rfl, rfl, fun vs h pm cd doc => by obtain ⟨a, b, rfl⟩ := len2 h; rfl, by decide, kindsB_ok (by decide +kernel)⟩
theorem c_law_draw : ((cellsFrom 0 (fnAt 18).scope.names []).map (·.1)).Nodup := by decide
theorem k_law_spaces : DefOk (fnAt 19) ["pen"] := ⟨rfl, rfl, rfl, fun vs h pm cd doc => by obtain ⟨a, rfl⟩ := len1 h; rfl, by decide, kindsB_ok (by decide +kernel)⟩
theorem c_law_spaces : ((cellsFrom 0 (fnAt 19).scope.names []).map (·.1)).Nodup := by decide
theorem k_law_octets : DefOk (fnAt 20) ["pen", "spaces"] := ⟨rfl, rfl, rfl, fun vs h pm cd doc => by obtain ⟨a, b, rfl⟩ := len2 h; rfl, by decide, kindsB_ok (by decide +kernel)⟩
theorem c_law_octets : ((cellsFrom 0 (fnAt 20).scope.names []).map (·.1)).Nodup := by decide
theorem k_law_fits : DefOk (fnAt 21) ["space", "octets"] := ⟨rfl, rfl, rfl, fun vs h pm cd doc => by obtain ⟨a, b, rfl⟩ := len2 h; rfl, by decide, kindsB_ok (by decide +kernel)⟩
theorem c_law_fits : ((cellsFrom 0 (fnAt 21).scope.names []).map (·.1)).Nodup := by decide
theorem k_law_length : DefOk (fnAt 22) ["spaces", "octets"] := ⟨rfl, rfl, rfl, fun vs h pm cd doc => by obtain ⟨a, b, rfl⟩ := len2 h; rfl, by decide, kindsB_ok (by decide +kernel)⟩
theorem c_law_length : ((cellsFrom 0 (fnAt 22).scope.names []).map (·.1)).Nodup := by decide
theorem k_law_number : DefOk (fnAt 23) ["octets"] := ⟨rfl, rfl, rfl, fun vs h pm cd doc => by obtain ⟨a, rfl⟩ := len1 h; rfl, by decide, kindsB_ok (by decide +kernel)⟩
theorem c_law_number : ((cellsFrom 0 (fnAt 23).scope.names []).map (·.1)).Nodup := by decide
theorem k_law_cut : DefOk (fnAt 24) ["spaces", "octets"] := ⟨rfl, rfl, rfl, fun vs h pm cd doc => by obtain ⟨a, b, rfl⟩ := len2 h; rfl, by decide, kindsB_ok (by decide +kernel)⟩
theorem c_law_cut : ((cellsFrom 0 (fnAt 24).scope.names []).map (·.1)).Nodup := by decide
theorem k_law_is_sure : DefOk (fnAt 25) ["spaces", "key"] := ⟨rfl, rfl, rfl, fun vs h pm cd doc => by obtain ⟨a, b, rfl⟩ := len2 h; rfl, by decide, kindsB_ok (by decide +kernel)⟩
theorem c_law_is_sure : ((cellsFrom 0 (fnAt 25).scope.names []).map (·.1)).Nodup := by decide
theorem k_law_put : DefOk (fnAt 26) ["spaces", "chars", "line"] := ⟨rfl, rfl, rfl, fun vs h pm cd doc => by obtain ⟨a, b, c, rfl⟩ := len3 h; rfl, by decide, kindsB_ok (by decide +kernel)⟩
theorem c_law_put : ((cellsFrom 0 (fnAt 26).scope.names []).map (·.1)).Nodup := by decide
theorem k_law_put_heard : DefOk (fnAt 27) ["cmap", "line"] := ⟨rfl, rfl, rfl, fun vs h pm cd doc => by obtain ⟨a, b, rfl⟩ := len2 h; rfl, by decide, kindsB_ok (by decide +kernel)⟩
theorem c_law_put_heard : ((cellsFrom 0 (fnAt 27).scope.names []).map (·.1)).Nodup := by decide
end Mine

namespace Mine

def numB (ns : List Int) : Int := ns.foldl (fun c o => 256 * c + o) 0
theorem numB_snoc (ns : List Int) (o : Int) : numB (ns ++ [o]) = 256 * numB ns + o := by simp [numB]

theorem b_code_of {Γ : Cx} (ns : List Int) : Body Γ (fnAt 7) ["octets"] [.bytes ns] [] (fun r _ => r = .int (numB ns)) := by
  intro L f cd
  refine WX.cons (NoX.ok _) (WS.assign (callee_stor (.inl rfl)) (WE.const_int ?_))
  refine WX.cons (NoX.ok _) (WS.for_ (WE.name (d := .bytes ns) rfl ?_))
  refine ⟨_, fun i σ => σ.loc "code" = some (.int (numB (ns.take i))), ItOk.bytes, rfl, ?_, ?_⟩
  · intro i e σ he j
    rw [List.getElem?_map] at he
    obtain ⟨o, ho, rfl⟩ := Option.map_eq_some_iff.mp he
    refine WAsg.name (callee_stor (.inl rfl)) (WX.cons (NoX.ok _) (WS.assign (callee_stor (.inl rfl)) (WE.binop (WE.binop (WE.const_int (WE.name (loc_ne j) ⟨_, BinOk.mul_int (.of_left (by decide)), WE.name loc_same ⟨_, BinOk.add_int, WX.nil ?_⟩⟩))))))
    show (St.set _ _ _).loc _ = _
    rw [loc_same, List.take_add_one, ho]
    show _ = some (D.int (numB (ns.take i ++ [o])))
    rw [numB_snoc]
  · intro σ j
    rw [List.length_map, List.take_length] at j
    exact WX.cons (NoX.ok _) (WS.ret (WE.name j ⟨_, rfl, (by intro i q; cases q), rfl⟩))

def octs (l : Nat) (c : Int) : List Int := (List.range l).map fun p => c / 256 ^ (l - 1 - p) % 256
theorem octs_len (l : Nat) (c : Int) : (octs l c).length = l := by simp [octs]
theorem octs_in {l : Nat} {c o : Int} (h : o ∈ octs l c) : 0 ≤ o ∧ o < 256 := by
  obtain ⟨p, _, rfl⟩ := List.mem_map.mp h
  exact ⟨Int.emod_nonneg _ (by decide), Int.emod_lt_of_pos _ (by decide)⟩

theorem bitAnd_255 {a : Int} (h : 0 ≤ a) : Builtin.bitAnd a 255 = a % 256 := by
  obtain ⟨n, rfl⟩ := Int.eq_ofNat_of_zero_le h
  have e : (n &&& 255 : Nat) = n % 256 := Nat.and_two_pow_sub_one_eq_mod n 8
  have : Builtin.bitAnd (n : Int) 255 = ((n &&& 255 : Nat) : Int) := by
    unfold Builtin.bitAnd
    have h1 : ((n : Int) ≥ 0) := h
    have h2 : ((255 : Int) ≥ 0) := by decide
    simp
  rw [this, e]; rfl
theorem shift_octet {c : Int} {k : Nat} : c.fdiv (2 ^ (8 * k)) = c / 256 ^ k := by
  have e : (2 : Int) ^ (8 * k) = 256 ^ k := by rw [Int.pow_mul]; rfl
  rw [e, Int.fdiv_eq_ediv_of_nonneg _ (Int.le_of_lt (Int.pow_pos (by decide)))]
theorem octs_get {l : Nat} {c : Int} {i : Nat} (h : i < l) : (octs l c)[i]? = some (c / 256 ^ (l - 1 - i) % 256) := by
  unfold octs
  rw [List.getElem?_map, List.getElem?_range h]; rfl
theorem take_snoc {α : Type} {xs : List α} {i : Nat} {x : α} (h : xs[i]? = some x) : xs.take (i + 1) = xs.take i ++ [x] := by rw [List.take_add_one, h]; rfl
theorem rangeSize_nat (l : Nat) : Builtin.Range.rangeSize 0 (l : Int) 1 = (l : Int) := by
  unfold Builtin.Range.rangeSize
  split <;> simp_all
theorem small_nat {l : Nat} (h : l ≤ 16777216) : Builtin.Range.small 0 (l : Int) 1 = true := by
  unfold Builtin.Range.small
  rw [rangeSize_nat]
  unfold Builtin.Range.rangeFitsLong
  simp only [Bool.and_eq_true, Bool.or_eq_true, decide_eq_true_eq, beq_iff_eq]
  refine ⟨⟨⟨⟨?_, ?_⟩, ?_⟩, ?_⟩, .inr ?_⟩ <;> first | lia | (rw [if_pos (by decide)]; simp only [Bool.and_eq_true, decide_eq_true_eq]; lia)
theorem not_own_int {x : Int} : ∀ i, (D.int x) ≠ .own i := fun i q => by cases q

theorem b_code_octets {Γ : Cx} (G : GE Γ) (l : Nat) (c : Int) (hl : l ≤ 16) (hc : 0 ≤ c) : Body Γ (fnAt 8) ["length", "code"] [.int l, .int c] [] (fun r _ => r = .bytes (octs l c)) := by
  intro L f cd
  refine WX.cons (NoX.ok _) (WS.ret (WE.ty (x := "bytes") G (by simp) rfl ?_))
  refine WE.comp (.of rfl rfl) (WE.ty (x := "range") G (by simp) rfl (WE.name (d := .int l) rfl ⟨_, CallOk.range1.here, ?_⟩))
  refine ⟨_, fun i ds ow => ds = ((octs l c).take i).map D.int ∧ ow = [], ItOk.rng (n := l) (small_nat (by lia)) (rangeSize_nat l), by simp [rangeInts, sizeLine_eq]; lia, ⟨by simp, rfl⟩, ?_, ?_⟩
  · intro cl C i e ds ow he ⟨hds, how⟩
    have hi : i < l := by have := (List.getElem?_eq_some_iff.mp he).1; simpa [rangeInts] using this
    rw [List.getElem?_map, rangeInts_get hi] at he
    cases he
    have h0 : (0 : Int) ≤ 8 * ((l : Int) - 1 - (0 + (i : Int) * 1)) := by lia
    refine WAsg.name (.inl rfl) ⟨fun _ => ?_, fun q => by cases q⟩
    refine WE.binop (WE.binop (WE.name (d := .int c) (by refine cl1 ?_ ?_ ?_ <;> rfl) (WE.binop (WE.const_int (WE.binop (WE.binop (WE.name (d := .int l) (by refine cl1 ?_ ?_ ?_ <;> rfl) (WE.const_int ⟨_, BinOk.sub_int, WE.name loc_same ⟨_, BinOk.sub_int, ?_⟩⟩))))))))
    refine ⟨_, BinOk.mul_int (.of_left (by decide)), ⟨_, BinOk.shr_int h0, WE.const_int ⟨_, BinOk.and_int, not_own_int, ?_, how⟩⟩⟩
    rw [take_snoc (octs_get hi), hds, List.map_append]
    have hk : (8 * ((l : Int) - 1 - (0 + (i : Int) * 1))).toNat = 8 * (l - 1 - i) := by lia
    rw [hk, shift_octet, bitAnd_255 (Int.ediv_nonneg hc (Int.le_of_lt (Int.pow_pos (by decide))))]
    rfl
  · intro ds ow ⟨hds, how⟩
    have : (rangeInts 0 1 l).length = l := by simp [rangeInts]
    rw [List.length_map, this] at hds
    rw [List.take_of_length_le (by rw [octs_len]; exact Nat.le_refl _)] at hds
    subst hds
    refine ⟨_, (CallOk.bytes_lst (fun n hn => octs_in hn) (by rw [octs_len, sizeLine_eq]; lia)).here, _, rfl, (by intro i q; cases q), rfl⟩

def wts (os : List Int) : List Int := (List.range os.length).map fun p => os.getD p 0 * 256 ^ (os.length - 1 - p)
theorem sum_map_mul (k : Int) (f : Nat → Int) (l : List Nat) : (l.map fun p => k * f p).sum = k * (l.map f).sum := by
  induction l with
  | nil => simp
  | cons a l ih => simp only [List.map_cons, List.sum_cons, ih, Int.mul_add]
theorem wts_sum (os : List Int) : (wts os).sum = numB os := by
  have : ∀ (n : Nat) (os : List Int), os.length = n → (wts os).sum = numB os := by
    intro n
    induction n with
    | zero => intro os h; rw [List.length_eq_zero_iff] at h; subst h; rfl
    | succ n ih =>
      intro os h
      have hne : os ≠ [] := by intro q; subst q; simp at h
      obtain ⟨o, hd⟩ : ∃ o, os = os.dropLast ++ [o] := ⟨_, (List.dropLast_concat_getLast hne).symm⟩
      generalize os.dropLast = os' at hd
      subst hd
      have hl : os'.length = n := by simpa using h
      rw [numB_snoc, ← ih os' hl]
      unfold wts
      rw [List.length_append, List.length_singleton, List.range_succ, List.map_append, List.sum_append]
      have e1 : (List.range os'.length).map (fun p => (os' ++ [o]).getD p 0 * 256 ^ (os'.length + 1 - 1 - p)) = (List.range os'.length).map fun p => 256 * (os'.getD p 0 * 256 ^ (os'.length - 1 - p)) := by
        apply List.map_congr_left
        intro p hp
        have hp : p < os'.length := by simpa using hp
        have : (os' ++ [o]).getD p 0 = os'.getD p 0 := by
          rw [List.getD_eq_getElem?_getD, List.getD_eq_getElem?_getD, List.getElem?_append_left hp]
        rw [this, show os'.length + 1 - 1 - p = (os'.length - 1 - p) + 1 from by lia, Int.pow_succ]
        rw [← Int.mul_assoc, Int.mul_comm]
      rw [e1, sum_map_mul]
      simp
  exact this _ os rfl
theorem wts_len (os : List Int) : (wts os).length = os.length := by simp [wts]
theorem wts_get {os : List Int} {i : Nat} (h : i < os.length) : (wts os)[i]? = some (os.getD i 0 * 256 ^ (os.length - 1 - i)) := by
  unfold wts
  rw [List.getElem?_map, List.getElem?_range h]; rfl
/-- octets, few -/
def Octs (os : List Int) : Prop := os.length ≤ 4 ∧ ∀ o ∈ os, 0 ≤ o ∧ o < 256
theorem pow_small : ∀ k : Nat, k ≤ 3 → (0 : Int) ≤ 256 ^ k ∧ (256 : Int) ^ k ≤ 16777216
  | 0, _ => by decide
  | 1, _ => by decide
  | 2, _ => by decide
  | 3, _ => by decide
theorem octet_at {os : List Int} (h : ∀ o ∈ os, 0 ≤ o ∧ o < 256) (i : Nat) : 0 ≤ os.getD i 0 ∧ os.getD i 0 < 256 := by
  rw [List.getD_eq_getElem?_getD]
  cases e : os[i]? with
  | none => simp
  | some o => exact h o (List.mem_of_getElem? e)
theorem wts_in {os : List Int} (h : Octs os) : ∀ x ∈ wts os, 0 ≤ x ∧ x ≤ 4294967296 := by
  intro x hx
  obtain ⟨p, hp, rfl⟩ := List.mem_map.mp hx
  have hp : p < os.length := by simpa using hp
  have h1 := octet_at h.2 p
  have h2 := pow_small (os.length - 1 - p) (by have := h.1; lia)
  generalize os.getD p 0 = a at h1
  generalize (256 : Int) ^ (os.length - 1 - p) = b at h2
  constructor
  · exact Int.mul_nonneg h1.1 h2.1
  · have : a * b ≤ 256 * 16777216 := Int.mul_le_mul (by lia) h2.2 h2.1 (by decide)
    lia
theorem sum_bound : ∀ {l : List Int}, (∀ x ∈ l, 0 ≤ x ∧ x ≤ 4294967296) → 0 ≤ l.sum ∧ l.sum ≤ 4294967296 * l.length
  | [], _ => by simp
  | x :: l, h => by
    have h1 := h x List.mem_cons_self
    have h2 := sum_bound fun y hy => h y (List.mem_cons_of_mem _ hy)
    simp only [List.sum_cons, List.length_cons]
    push_cast
    lia
theorem wts_fits {os : List Int} (h : Octs os) : PySem.SumFits (wts os) := by
  intro j hj
  have a1 := wts_in h
  have a2 : ∀ x ∈ (wts os).take (j + 1), 0 ≤ x ∧ x ≤ 4294967296 := fun x hx => a1 x (List.mem_of_mem_take hx)
  have a3 := sum_bound a2
  have hl : ((wts os).take (j + 1)).length ≤ 4 := by
    rw [List.length_take, wts_len]; have := h.1; lia
  have a4 : 0 ≤ (wts os).getD j 0 ∧ (wts os).getD j 0 ≤ 4294967296 := by
    rw [List.getD_eq_getElem?_getD]
    cases e : (wts os)[j]? with
    | none => simp
    | some o => exact a1 o (List.mem_of_getElem? e)
  unfold InLong
  constructor <;> constructor <;> lia

theorem mulFit {a b : Int} (h : a.natAbs < 18446744073709551616) : IntMulOk a b := .of_left (PySem.intBits_le_iff.mpr h)
theorem b_law_number {Γ : Cx} (G : GE Γ) (os : List Int) (ho : Octs os) : Body Γ (fnAt 23) ["octets"] [.lst (os.map .int)] [] (fun r _ => r = .int (numB os)) := by
  have hz : (os.map D.int).length ≤ sizeLine := by rw [List.length_map, sizeLine_eq]; have := ho.1; lia
  have hl4 := ho.1
  intro L f cd
  refine WX.cons (NoX.ok _) (WS.ret (WE.bu (x := "sum") G (by simp) rfl ?_))
  refine WE.comp (.of rfl rfl) (WE.ty (x := "range") G (by simp) rfl (WE.bu (x := "len") G (by simp) rfl (WE.name (d := .lst (os.map .int)) rfl ⟨_, (CallOk.len_lst hz).here, ⟨_, CallOk.range1.here, ?_⟩⟩)))
  rw [List.length_map]
  refine ⟨_, fun i ds ow => ds = ((wts os).take i).map D.int ∧ ow = [], ItOk.rng (n := os.length) (small_nat (by lia)) (rangeSize_nat _), by simp [rangeInts, sizeLine_eq]; lia, ⟨by simp, rfl⟩, ?_, ?_⟩
  · intro cl C i e ds ow he ⟨hds, how⟩
    have hi : i < os.length := by have := (List.getElem?_eq_some_iff.mp he).1; simpa [rangeInts] using this
    rw [List.getElem?_map, rangeInts_get hi] at he
    cases he
    refine WAsg.name (.inl rfl) ⟨fun _ => ?_, fun q => by cases q⟩
    have hget : (os.map D.int)[((0 : Int) + (i : Int) * 1).toNat]? = some (.int (os.getD i 0)) := by
      have : ((0 : Int) + (i : Int) * 1).toNat = i := by lia
      rw [this, List.getElem?_map]; simp [hi]
    refine WE.binop (WE.sub (WE.name (d := .lst (os.map .int)) (by refine cl1 ?_ ?_ ?_ <;> rfl) (WE.name loc_same ⟨_, ItemOk.lst (by lia) (by lia) hget, ?_⟩)))
    refine WE.binop (WE.const_int (WE.binop (WE.binop (WE.bu (x := "len") (Γ := Cx.comp _ _ cl C) G (by simp) rfl (WE.name (d := .lst (os.map .int)) (by refine cl1 ?_ ?_ ?_ <;> rfl) ⟨_, (CallOk.len_lst hz).here, WE.const_int ⟨_, BinOk.sub_int, WE.name loc_same ⟨_, BinOk.sub_int, ?_⟩⟩⟩)))))
    rw [List.length_map]
    have hoct := octet_at ho.2 i
    refine ⟨_, BinOk.pow_int (by lia) (by lia) (by decide), ⟨_, BinOk.mul_int (mulFit (by lia)), not_own_int, ?_, how⟩⟩
    rw [take_snoc (wts_get hi), hds, List.map_append]
    have hk : ((os.length : Int) - 1 - (0 + (i : Int) * 1)).toNat = os.length - 1 - i := by lia
    rw [hk]; rfl
  · intro ds ow ⟨hds, how⟩
    have : (rangeInts 0 1 os.length).length = os.length := by simp [rangeInts]
    rw [List.length_map, this] at hds
    rw [List.take_of_length_le (by rw [wts_len]; exact Nat.le_refl _)] at hds
    subst hds
    refine ⟨_, (CallOk.sum_lst (wts_fits ho)).here, _, rfl, (by intro i q; cases q), by rw [wts_sum]⟩
end Mine

namespace Mine

/-- how many leading octets fit -/
noncomputable def fitL : List Int → List Int → List Int → Nat
  | l :: ls, h :: hs, o :: os => if l ≤ o ∧ o ≤ h then fitL ls hs os + 1 else 0
  | _, _, _ => 0
theorem fitL_take : ∀ (ls hs os : List Int) (n : Nat), ls.length ≤ n → fitL ls hs (os.take n) = fitL ls hs os
  | [], _, _, _, _ => by simp [fitL]
  | _ :: _, [], _, _, _ => by simp [fitL]
  | _ :: _, _ :: _, [], n, _ => by simp
  | l :: ls, h :: hs, o :: os, 0, q => by simp at q
  | l :: ls, h :: hs, o :: os, n + 1, q => by
    rw [List.take_succ_cons]
    unfold fitL
    rw [fitL_take ls hs os n (by simpa using q)]
theorem drop_at {xs : List Int} {p : Nat} (h : p < xs.length) : xs.drop p = xs.getD p 0 :: xs.drop (p + 1) := by
  rw [List.drop_eq_getElem_cons h, List.getD_eq_getElem?_getD, List.getElem?_eq_getElem h]; rfl
theorem fit_step {ls hs os : List Int} {p : Nat} (h1 : p < ls.length) (h2 : p < hs.length) (h3 : p < os.length) :
    fitL (ls.drop p) (hs.drop p) (os.drop p) = if ls.getD p 0 ≤ os.getD p 0 ∧ os.getD p 0 ≤ hs.getD p 0 then fitL (ls.drop (p + 1)) (hs.drop (p + 1)) (os.drop (p + 1)) + 1 else 0 := by
  rw [drop_at h1, drop_at h2, drop_at h3, fitL]
theorem fit_nil1 {ls hs os : List Int} {p : Nat} (h : ls.length ≤ p) : fitL (ls.drop p) (hs.drop p) (os.drop p) = 0 := by
  rw [List.drop_eq_nil_of_le h]; simp [fitL]
theorem fit_nil3 {ls hs os : List Int} {p : Nat} (h : os.length ≤ p) : fitL (ls.drop p) (hs.drop p) (os.drop p) = 0 := by
  rw [List.drop_eq_nil_of_le h]
  cases ls.drop p <;> cases hs.drop p <;> simp [fitL]
theorem getD_some {xs : List Int} {p : Nat} (h : p < xs.length) : xs[p]? = some (xs.getD p 0) := by
  rw [List.getD_eq_getElem?_getD, List.getElem?_eq_getElem h]; rfl

inductive JFit (l : Nat) (lo hi : Int) (os : List Int) (k : Nat) (σ : St) : Prop
  | mk (p : Nat) (j1 : k = l - p) (j2 : p ≤ l) (j3 : σ.loc "place" = some (.int p)) (j4 : σ.loc "length" = some (.int l)) (j5 : σ.loc "lows" = some (.bytes (octs l lo))) (j6 : σ.loc "highs" = some (.bytes (octs l hi))) (j7 : σ.loc "octets" = some (.bytes os)) (j8 : fitL (octs l lo) (octs l hi) os = p + fitL ((octs l lo).drop p) ((octs l hi).drop p) (os.drop p))
theorem b_fitting {Γ : Cx} (G : GE Γ) (hlv : 1 ≤ Γ.lv - 1) (l : Nat) (lo hi : Int) (os : List Int) (hl : l ≤ 16) (hlo : 0 ≤ lo) (hhi : 0 ≤ hi) (ho : os.length ≤ 16) :
    Body Γ (fnAt 9) ["space", "octets"] [dkey [(l : Int), lo, hi], .bytes os] [] (fun r _ => r = .int (fitL (octs l lo) (octs l hi) os)) := by
  intro L f cd
  have G' : GE (Γ.callee (fnAt 9) L f cd 0) := G
  refine WX.cons (NoX.ok _) (WS.assignT (WE.name (d := dkey [(l : Int), lo, hi]) rfl ⟨[.int l, .int lo, .int hi], rfl, rfl, ?_⟩))
  refine WAsg.name (.inl rfl) (WAsg.name (.inl rfl) (WAsg.name (.inl rfl) ?_))
  refine WX.cons (NoX.ok _) (WS.assign (.inl rfl) (WE.def (i := 8) G' (by decide) k_code_octets c_code_octets hlv rfl ?_))
  refine WE.name (d := .int l) (by rfl) (WE.name (d := .int lo) (by rfl) ⟨rfl, by simp, _, b_code_octets G' l lo hl hlo, ?_⟩)
  rintro r rfl
  refine WX.cons (NoX.ok _) (WS.assign (.inl rfl) (WE.def (i := 8) G' (by decide) k_code_octets c_code_octets hlv rfl ?_))
  refine WE.name (d := .int l) (by rfl) (WE.name (d := .int hi) (by rfl) ⟨rfl, by simp, _, b_code_octets G' l hi hl hhi, ?_⟩)
  rintro r rfl
  refine WX.cons (NoX.ok _) (WS.assign (.inl rfl) (WE.const_int ?_))
  have l1 := octs_len l lo
  have l2 := octs_len l hi
  refine WX.cons (NoX.ok _) (WS.while_ (Ei := NoX) (NoX.ok _) (JFit l lo hi os) l ⟨0, rfl, Nat.zero_le _, by rfl, by rfl, by rfl, by rfl, by rfl, by simp⟩ (fun _ _ _ _ x => x.elim) ?_)
  rintro k σ ⟨p, rfl, hp, e1, e2, e3, e4, e5, hf⟩
  have fin : fitL ((octs l lo).drop p) ((octs l hi).drop p) (os.drop p) = 0 → D.int (p : Int) = D.int ((fitL (octs l lo) (octs l hi) os : Nat) : Int) := fun q => by rw [hf, q, Nat.add_zero]
  refine WT.and_cons (WT.cmp (WE.name e1 (WE.name e2 ⟨_, CmpOk.lt_int.here, ?_, ?_⟩)))
  · intro c1
    have c1 : p < l := by simpa using c1
    refine WT.and_cons (WT.cmp (WE.name e1 (WE.bu (x := "len") G' (by simp) rfl (WE.name e5 ⟨_, (CallOk.len_bytes (by lia)).here, ⟨_, CmpOk.lt_int.here, ?_, ?_⟩⟩))))
    · intro c2
      have c2 : p < os.length := by simpa using c2
      have st := fit_step (ls := octs l lo) (hs := octs l hi) (os := os) (p := p) (by lia) (by lia) c2
      refine WT.and_cons (WT.chain (WE.sub (WE.name e3 (WE.name e1 ⟨_, ItemOk.bytes (k := (octs l lo).getD p 0) (by lia) (by lia) (getD_some (by lia)), WE.sub (WE.name e5 (WE.name e1 ⟨_, ItemOk.bytes (k := os.getD p 0) (by lia) (by lia) (getD_some (by lia)), ?_⟩))⟩))))
      refine ⟨_, CmpOk.le_int.here, fun c3 => ⟨(by intro q; cases q), fun _ => ⟨(by intro q; cases q), fun _ => WX.cons (NoX.ok _) (WS.ret (WE.name e1 ⟨_, rfl, not_own_int, fin ?_⟩))⟩⟩, fun c3 => WE.sub (WE.name e4 (WE.name e1 ⟨_, ItemOk.bytes (k := (octs l hi).getD p 0) (by lia) (by lia) (getD_some (by lia)), ?_⟩))⟩
      · have c3 := of_decide_eq_false c3
        rw [st, if_neg (fun q => c3 q.1)]
      · have c3 := of_decide_eq_true c3
        refine ⟨_, CmpOk.le_int.here, fun c4 => WT.and_nil ⟨fun _ => ?_, (by intro q; cases q)⟩, fun c4 => ⟨(by intro q; cases q), fun _ => WX.cons (NoX.ok _) (WS.ret (WE.name e1 ⟨_, rfl, not_own_int, fin ?_⟩))⟩⟩
        · have c4 := of_decide_eq_true c4
          refine WX.cons (NoX.ok _) (WS.assign (.inl rfl) (WE.binop (WE.name e1 (WE.const_int ⟨_, BinOk.add_int, WX.nil ?_⟩))))
          refine ⟨l - (p + 1), by lia, p + 1, rfl, c1, loc_same, loc_ne e2, loc_ne e3, loc_ne e4, loc_ne e5, ?_⟩
          rw [hf, st, if_pos ⟨c3, c4⟩]; lia
        · have c4 := of_decide_eq_false c4
          rw [st, if_neg (fun q => c4 q.2)]
    · intro c2
      have c2 : ¬ p < os.length := by simpa using c2
      exact ⟨(by intro q; cases q), fun _ => WX.cons (NoX.ok _) (WS.ret (WE.name e1 ⟨_, rfl, not_own_int, fin (fit_nil3 (by lia))⟩))⟩
  · intro c1
    have c1 : ¬ p < l := by simpa using c1
    exact ⟨(by intro q; cases q), fun _ => WX.cons (NoX.ok _) (WS.ret (WE.name e1 ⟨_, rfl, not_own_int, fin (fit_nil1 (by lia))⟩))⟩

theorem fit_any {ls hs os : List Int} {p : Nat} (h : ls[p]? = none ∨ hs[p]? = none ∨ os[p]? = none) : fitL (ls.drop p) (hs.drop p) (os.drop p) = 0 := by
  simp only [List.getElem?_eq_none_iff] at h
  rcases h with h | h | h
  · exact fit_nil1 h
  · rw [List.drop_eq_nil_of_le h]; cases ls.drop p <;> simp [fitL]
  · exact fit_nil3 h
theorem map_get {xs : List Int} {i : Nat} {d : D} (h : (xs.map D.int)[i]? = some d) : i < xs.length ∧ d = .int (xs.getD i 0) := by
  rw [List.getElem?_map] at h
  obtain ⟨x, hx, rfl⟩ := Option.map_eq_some_iff.mp h
  exact ⟨(List.getElem?_eq_some_iff.mp hx).1, by rw [List.getD_eq_getElem?_getD, hx]; rfl⟩
theorem map_none {xs : List Int} {i : Nat} (h : (xs.map D.int)[i]? = none) : xs[i]? = none := by
  rw [List.getElem?_map] at h; exact Option.map_eq_none_iff.mp h

theorem b_law_fits {Γ : Cx} (G : GE Γ) (ls hs os : List Int) :
    Body Γ (fnAt 21) ["space", "octets"] [.tup [.lst (ls.map .int), .lst (hs.map .int)], .lst (os.map .int)] [] (fun r _ => r = .int (fitL ls hs os)) := by
  intro L f cd
  have G' : GE (Γ.callee (fnAt 21) L f cd 0) := G
  refine WX.cons (NoX.ok _) (WS.assign (.inl rfl) (WE.const_int ?_))
  refine WX.cons (NoX.ok _) (WS.forZip3 rfl (G'.ty "zip" (by simp)).1 (G'.ty "zip" (by simp)).2 ?_)
  refine WE.sub (WE.name (d := .tup [.lst (ls.map .int), .lst (hs.map .int)]) (by rfl) (WE.const_int ⟨_, ItemOk.tup (by decide) (by decide) rfl, ?_⟩))
  refine WE.sub (WE.name (d := .tup [.lst (ls.map .int), .lst (hs.map .int)]) (by rfl) (WE.const_int ⟨_, ItemOk.tup (by decide) (by decide) rfl, ?_⟩))
  refine WE.name (d := .lst (os.map .int)) (by rfl) ⟨_, _, _, rfl, fun i σ => σ.loc "many" = some (.int i) ∧ fitL ls hs os = i + fitL (ls.drop i) (hs.drop i) (os.drop i), ⟨by rfl, by simp⟩, ?_, ?_⟩
  · rintro i a b c σ h1 h2 h3 ⟨e1, hf⟩
    obtain ⟨l1, rfl⟩ := map_get h1
    obtain ⟨l2, rfl⟩ := map_get h2
    obtain ⟨l3, rfl⟩ := map_get h3
    have st := fit_step (ls := ls) (hs := hs) (os := os) l1 l2 l3
    refine WAsg.name (.inl rfl) (WAsg.name (.inl rfl) (WAsg.name (.inl rfl) ?_))
    refine WX.cons (NoX.ok _) (WS.if_ (NoX.ok _) (WT.or_cons (WT.cmp (WE.name loc_same (WE.name (by exact loc_ne (loc_ne loc_same)) ⟨_, CmpOk.lt_int.here, fun c => ?_, fun c => ?_⟩)))))
    · have c := of_decide_eq_true c
      refine ⟨fun _ => WX.cons (NoX.ok _) (WS.ret (WE.name (by exact loc_ne (loc_ne (loc_ne e1))) ⟨_, rfl, not_own_int, ?_⟩)), (by intro q; cases q)⟩
      rw [hf, st, if_neg (by lia), Nat.add_zero]
    · have c := of_decide_eq_false c
      refine WT.or_cons (WT.cmp (WE.name loc_same (WE.name (by exact loc_ne loc_same) ⟨_, CmpOk.gt_int.here, fun c2 => ?_, fun c2 => ?_⟩)))
      · have c2 := of_decide_eq_true c2
        refine ⟨fun _ => WX.cons (NoX.ok _) (WS.ret (WE.name (by exact loc_ne (loc_ne (loc_ne e1))) ⟨_, rfl, not_own_int, ?_⟩)), (by intro q; cases q)⟩
        rw [hf, st, if_neg (by lia), Nat.add_zero]
      · have c2 := of_decide_eq_false c2
        refine WT.or_nil ⟨(by intro q; cases q), fun _ => WX.nil ?_⟩
        refine WX.cons (NoX.ok _) (WS.assign (.inl rfl) (WE.binop (WE.name (by exact loc_ne (loc_ne (loc_ne e1))) (WE.const_int ⟨_, BinOk.add_int, WX.nil ⟨loc_same, ?_⟩⟩))))
        rw [hf, st, if_pos (by lia)]; lia
  · rintro i σ ⟨e1, hf⟩ hn
    have : fitL (ls.drop i) (hs.drop i) (os.drop i) = 0 := fit_any (hn.imp map_none (fun h => h.imp map_none map_none))
    refine WX.cons (NoX.ok _) (WS.ret (WE.name e1 ⟨_, rfl, not_own_int, ?_⟩))
    rw [hf, this, Nat.add_zero]
end Mine

namespace Mine

theorem octs_succ (l : Nat) (c : Int) : octs (l + 1) c = octs l (c / 256) ++ [c % 256] := by
  unfold octs
  rw [List.range_succ, List.map_append, List.map_singleton]
  congr 1
  · apply List.map_congr_left
    intro p hp
    have hp : p < l := by simpa using hp
    rw [show l + 1 - 1 - p = (l - 1 - p) + 1 from by lia, Int.pow_succ, Int.mul_comm, Int.ediv_ediv_of_nonneg (by decide)]
  · simp
theorem octs_numB (os : List Int) (h : ∀ o ∈ os, 0 ≤ o ∧ o < 256) : octs os.length (numB os) = os := by
  have : ∀ (n : Nat) (os : List Int), os.length = n → (∀ o ∈ os, 0 ≤ o ∧ o < 256) → octs n (numB os) = os := by
    intro n
    induction n with
    | zero => intro os h _; rw [List.length_eq_zero_iff] at h; subst h; rfl
    | succ n ih =>
      intro os h hr
      have hne : os ≠ [] := by intro q; subst q; simp at h
      obtain ⟨o, hd⟩ : ∃ o, os = os.dropLast ++ [o] := ⟨_, (List.dropLast_concat_getLast hne).symm⟩
      generalize os.dropLast = os' at hd
      subst hd
      have ho := hr o (by simp)
      rw [numB_snoc, octs_succ]
      have e1 : (256 * numB os' + o) / 256 = numB os' := by lia
      have e2 : (256 * numB os' + o) % 256 = o := by lia
      rw [e1, e2, ih os' (by simpa using h) fun x hx => hr x (by simp [hx])]
  exact this _ os rfl h
theorem numB_octs : ∀ (l : Nat) (c : Int), 0 ≤ c → c < 256 ^ l → numB (octs l c) = c
  | 0, c, h0, h1 => by
    have : c = 0 := by simp at h1; lia
    subst this; rfl
  | l + 1, c, h0, h1 => by
    rw [octs_succ, numB_snoc, numB_octs l (c / 256) (by lia) ?_]
    · lia
    · rw [Int.pow_succ] at h1
      exact Int.ediv_lt_of_lt_mul (by decide) h1
theorem numB_nonneg {os : List Int} (h : ∀ o ∈ os, 0 ≤ o ∧ o < 256) : 0 ≤ numB os ∧ numB os < 256 ^ os.length := by
  have : ∀ (n : Nat) (os : List Int), os.length = n → (∀ o ∈ os, 0 ≤ o ∧ o < 256) → 0 ≤ numB os ∧ numB os < 256 ^ n := by
    intro n
    induction n with
    | zero => intro os h _; rw [List.length_eq_zero_iff] at h; subst h; decide
    | succ n ih =>
      intro os h hr
      have hne : os ≠ [] := by intro q; subst q; simp at h
      obtain ⟨o, hd⟩ : ∃ o, os = os.dropLast ++ [o] := ⟨_, (List.dropLast_concat_getLast hne).symm⟩
      generalize os.dropLast = os' at hd
      subst hd
      have ho := hr o (by simp)
      have := ih os' (by simpa using h) fun x hx => hr x (by simp [hx])
      rw [numB_snoc, Int.pow_succ]
      generalize (256 : Int) ^ n = X at this
      constructor <;> lia
  exact this _ os rfl h

abbrev Spaces := List (List Int × List Int)
structure SpOk (sp : Spaces) : Prop where
  few : sp.length ≤ 8
  len : ∀ s ∈ sp, s.2.length = s.1.length ∧ 1 ≤ s.1.length ∧ s.1.length ≤ 4
  oct : ∀ s ∈ sp, (∀ o ∈ s.1, 0 ≤ o ∧ o < 256) ∧ ∀ o ∈ s.2, 0 ≤ o ∧ o < 256
def spk (s : List Int × List Int) : List Int := [(s.1.length : Int), numB s.1, numB s.2]
def spc (s : List Int × List Int) : D := dkey (spk s)
def spl (s : List Int × List Int) : D := .tup [.lst (s.1.map .int), .lst (s.2.map .int)]
noncomputable abbrev fit (os : List Int) (s : List Int × List Int) : Nat := fitL s.1 s.2 os
abbrev wide (s : List Int × List Int) : Nat := s.1.length

def IsNext (sp : Spaces) (os : List Int) (n : Nat) : Prop :=
  (sp = [] ∧ n = 1) ∨ (∃ s ∈ sp, fit os s = wide s ∧ n = wide s ∧ ∀ s' ∈ sp, fit os s' = wide s' → n ≤ wide s') ∨
  (sp ≠ [] ∧ (∀ s ∈ sp, fit os s ≠ wide s) ∧ ∃ s ∈ sp, n = wide s ∧ (∀ s' ∈ sp, fit os s' ≤ fit os s) ∧ ∀ s' ∈ sp, fit os s' = fit os s → n ≤ wide s')
theorem IsNext.uniq {sp : Spaces} {os : List Int} {n m : Nat} (h : IsNext sp os n) (h' : IsNext sp os m) : n = m := by
  rcases h with ⟨e, rfl⟩ | ⟨s, hs, f, rfl, k⟩ | ⟨e, f, s, hs, rfl, k1, k2⟩ <;> rcases h' with ⟨e', rfl⟩ | ⟨s', hs', f', rfl, k'⟩ | ⟨e', f', s', hs', rfl, k1', k2'⟩
  · rfl
  · subst e; exact nomatch hs'
  · exact absurd e e'
  · subst e'; exact nomatch hs
  · exact Nat.le_antisymm (k _ hs' f') (k' _ hs f)
  · exact absurd f (f' _ hs)
  · exact absurd e' e
  · exact absurd f' (f _ hs')
  · have a := k1 _ hs'
    have b := k1' _ hs
    have c : fit os s = fit os s' := Nat.le_antisymm b a
    exact Nat.le_antisymm (k2 _ hs' c.symm) (k2' _ hs c)
open Classical in
noncomputable def nextLen (sp : Spaces) (os : List Int) : Nat := if h : ∃ n, IsNext sp os n then Classical.choose h else 0
theorem nextLen_of {sp : Spaces} {os : List Int} {n : Nat} (h : IsNext sp os n) : nextLen sp os = n := by
  have hx : ∃ n, IsNext sp os n := ⟨n, h⟩
  unfold nextLen
  rw [dif_pos hx]
  exact (Classical.choose_spec hx).uniq h

theorem take_map_snoc {α β : Type} {xs : List α} {f : α → β} {i : Nat} {x : α} (h : xs[i]? = some x) : (xs.take (i + 1)).map f = (xs.take i).map f ++ [f x] := by rw [take_snoc h, List.map_append]; rfl
theorem take_filter_t {α β : Type} {xs : List α} {p : α → Bool} {f : α → β} {i : Nat} {x : α} (h : xs[i]? = some x) (hp : p x = true) : ((xs.take (i + 1)).filter p).map f = ((xs.take i).filter p).map f ++ [f x] := by
  rw [take_snoc h, List.filter_append, List.map_append]; simp [hp]
theorem take_filter_f {α β : Type} {xs : List α} {p : α → Bool} {f : α → β} {i : Nat} {x : α} (h : xs[i]? = some x) (hp : p x = false) : ((xs.take (i + 1)).filter p).map f = ((xs.take i).filter p).map f := by
  rw [take_snoc h, List.filter_append, List.map_append]; simp [hp]
theorem exists_min : ∀ {l : List Int}, l ≠ [] → ∃ m ∈ l, ∀ a ∈ l, m ≤ a
  | [], h => absurd rfl h
  | [x], _ => ⟨x, by simp, by simp⟩
  | x :: y :: l, _ => by
    obtain ⟨m, hm, k⟩ := exists_min (l := y :: l) (by simp)
    by_cases q : x ≤ m
    · refine ⟨x, by simp, fun a ha => ?_⟩
      rcases List.mem_cons.mp ha with rfl | ha
      · exact Int.le_refl _
      · exact Int.le_trans q (k a ha)
    · refine ⟨m, List.mem_cons_of_mem _ hm, fun a ha => ?_⟩
      rcases List.mem_cons.mp ha with rfl | ha
      · lia
      · exact k a ha
theorem exists_max : ∀ {l : List Int}, l ≠ [] → ∃ m ∈ l, ∀ a ∈ l, a ≤ m
  | [], h => absurd rfl h
  | [x], _ => ⟨x, by simp, by simp⟩
  | x :: y :: l, _ => by
    obtain ⟨m, hm, k⟩ := exists_max (l := y :: l) (by simp)
    by_cases q : m ≤ x
    · refine ⟨x, by simp, fun a ha => ?_⟩
      rcases List.mem_cons.mp ha with rfl | ha
      · exact Int.le_refl _
      · exact Int.le_trans (k a ha) q
    · refine ⟨m, List.mem_cons_of_mem _ hm, fun a ha => ?_⟩
      rcases List.mem_cons.mp ha with rfl | ha
      · lia
      · exact k a ha

theorem two_le : (2 : Nat) ≤ sizeLine := by rw [sizeLine_eq]; decide
theorem three_le : (3 : Nat) ≤ sizeLine := by rw [sizeLine_eq]; decide
theorem fit_spc {sp : Spaces} (hs : SpOk sp) {s : List Int × List Int} (h : s ∈ sp) (os : List Int) : fitL (octs s.1.length (numB s.1)) (octs s.1.length (numB s.2)) os = fit os s := by
  have e1 := octs_numB s.1 (hs.oct s h).1
  have e2 := octs_numB s.2 (hs.oct s h).2
  rw [(hs.len s h).1] at e2
  rw [e1, e2]
theorem len_map_le {α : Type} {xs : List α} {f : α → D} (h : xs.length ≤ 1000) : (xs.map f).length ≤ sizeLine := by rw [List.length_map, sizeLine_eq]; lia
theorem not_own_tup {x : List D} : ∀ i, (D.tup x) ≠ .own i := fun i q => by cases q
theorem not_own_lst {x : List D} : ∀ i, (D.lst x) ≠ .own i := fun i q => by cases q
theorem not_own_bytes {x : List Int} : ∀ i, (D.bytes x) ≠ .own i := fun i q => by cases q
theorem not_own_str {x : Str} : ∀ i, (D.str x) ≠ .own i := fun i q => by cases q

noncomputable def rkd (os : List Int) (s : List Int × List Int) : D := .tup [.int (fit os s), .int (wide s)]

theorem b_next_length {Γ : Cx} (G : GE Γ) (hlv : 4 ≤ Γ.lv) (sp : Spaces) (os : List Int) (hs : SpOk sp) (ho : os.length ≤ 16) :
    Body Γ (fnAt 10) ["spaces", "octets"] [.lst (sp.map spc), .bytes os] [] (fun r _ => r = .int (nextLen sp os)) := by
  intro L f cd
  have G' : GE (Γ.callee (fnAt 10) L f cd 0) := G
  have hfew := hs.few
  refine WX.cons (NoX.ok _) (WS.if_ (NoX.ok _) (WT.not (WT.value (WE.name (d := .lst (sp.map spc)) (by rfl) ⟨_, TruthOk.lst (len_map_le (by lia)), fun c => ?_, fun c => ?_⟩) (by intro _; rfl))))
  · have : sp = [] := by cases sp with
      | nil => rfl
      | cons _ _ => simp at c
    refine WX.cons (NoX.ok _) (WS.ret (WE.const_int ⟨_, rfl, not_own_int, ?_⟩))
    rw [nextLen_of (n := 1) (.inl ⟨this, rfl⟩)]; rfl
  have hne : sp ≠ [] := by rintro rfl; simp at c
  refine WX.nil ?_
  refine WX.cons (NoX.ok _) (WS.assignComp (.of rfl rfl) (callee_stor (.inl rfl)) (WE.name (d := .lst (sp.map spc)) (by rfl) ?_))
  refine ⟨_, fun i ds ow => ds = (sp.take i).map (rkd os) ∧ ow = [], ItOk.lst, len_map_le (by lia), ⟨by simp, rfl⟩, ?_, ?_⟩
  · intro cl C i e ds ow he ⟨hds, how⟩
    rw [List.getElem?_map] at he
    obtain ⟨s, hsi, rfl⟩ := Option.map_eq_some_iff.mp he
    have hmem := List.mem_of_getElem? hsi
    have hn := hs.len s hmem
    refine WAsg.name (.inl rfl) ⟨fun _ => ?_, fun q => by cases q⟩
    refine WE.tuple ?_
    refine WE.def (Γ := Cx.comp _ _ cl C) (i := 9) G (by decide) k_fitting c_fitting (by show 1 ≤ Γ.lv - 1; lia) rfl ?_
    refine WE.name (d := spc s) loc_same (WE.name (d := .bytes os) (by refine cl1 ?_ ?_ ?_ <;> rfl) ⟨rfl, ?_, _, b_fitting (by exact G) (by show 1 ≤ Γ.lv - 1 - 1; lia) s.1.length (numB s.1) (numB s.2) os (by lia) (numB_nonneg (hs.oct s hmem).1).1 (numB_nonneg (hs.oct s hmem).2).1 ho, ?_⟩)
    · intro d hd
      simp only [List.mem_cons, List.not_mem_nil, or_false] at hd
      rcases hd with rfl | rfl
      · exact not_own_tup
      · exact not_own_bytes
    rintro r rfl
    refine WE.sub (WE.name (d := spc s) loc_same (WE.const_int ⟨_, ItemOk.tup (d := .int s.1.length) (by decide) (by decide) rfl, ⟨?_, two_le, not_own_tup, ?_, how⟩⟩))
    · intro d hd
      simp only [List.mem_cons, List.not_mem_nil, or_false] at hd
      rcases hd with rfl | rfl <;> exact not_own_int
    · rw [take_map_snoc hsi, hds, fit_spc hs hmem]; rfl
  intro ds ow ⟨hds, how⟩
  rw [List.length_map, List.take_length] at hds
  subst hds how
  refine WX.cons (NoX.ok _) (WS.assignComp (.of rfl rfl) (callee_stor (.inl rfl)) (WE.name (d := .lst (sp.map (rkd os))) loc_same ?_))
  refine ⟨_, fun i ds ow => ds = ((sp.take i).filter fun s => decide (fit os s = wide s)).map (fun s => D.int (wide s)) ∧ ow = [], ItOk.lst, len_map_le (by lia), ⟨by simp, rfl⟩, ?_, ?_⟩
  · intro cl C i e ds ow he ⟨hds, how⟩
    rw [List.getElem?_map] at he
    obtain ⟨s, hsi, rfl⟩ := Option.map_eq_some_iff.mp he
    refine WAsg.tuple (WAsg.name (.inl rfl) (WAsg.name (.inl rfl) ?_))
    refine WT.cmp (WE.name (by exact loc_ne loc_same) (WE.name loc_same ⟨_, CmpOk.eq_int.here, fun c => ⟨fun _ => ?_, (by intro q; cases q)⟩, fun c => ⟨(by intro q; cases q), fun _ => ?_⟩⟩))
    · refine WE.name loc_same ⟨not_own_int, ?_, how⟩
      rw [take_filter_t hsi, hds]
      have := of_decide_eq_true c
      exact decide_eq_true (by lia)
    · refine ⟨?_, how⟩
      rw [take_filter_f hsi, hds]
      have := of_decide_eq_false c
      exact decide_eq_false (by lia)
  intro ds ow ⟨hds, how⟩
  rw [List.length_map, List.take_length] at hds
  subst hds how
  refine WX.cons (NoX.ok _) (WS.if_ (NoX.ok _) (WT.value (WE.name loc_same ⟨_, TruthOk.lst (len_map_le (by have := List.length_filter_le (fun s => decide (fit os s = wide s)) sp; lia)), fun c => ?_, fun c => ?_⟩) (by intro _; rfl)))
  · have hne2 : ((sp.filter fun s => decide (fit os s = wide s)).map fun s => ((wide s : Nat) : Int)) ≠ [] := by
      intro q
      rw [List.map_eq_nil_iff] at q
      rw [q] at c; simp at c
    obtain ⟨m, hm, hmin⟩ := exists_min hne2
    refine WX.cons (NoX.ok _) (WS.ret (WE.bu (x := "min") G' (by simp) rfl (WE.name loc_same ⟨.int m, ?_, _, rfl, not_own_int, ?_⟩)))
    · have := CallOk.min_lst (Γ := Γ.callee (fnAt 10) L f cd 0) hm hmin
      rw [List.map_map] at this
      exact this.here
    · obtain ⟨s, hs1, rfl⟩ := List.mem_map.mp hm
      obtain ⟨hs1, hs2⟩ := List.mem_filter.mp hs1
      rw [nextLen_of (n := wide s) (.inr (.inl ⟨s, hs1, of_decide_eq_true hs2, rfl, fun s' h1 h2 => ?_⟩))]
      have := hmin ((wide s' : Nat) : Int) (List.mem_map.mpr ⟨s', List.mem_filter.mpr ⟨h1, decide_eq_true h2⟩, rfl⟩)
      lia
  have hno : ∀ s ∈ sp, fit os s ≠ wide s := fun s h1 h2 => by
    have : s ∈ sp.filter fun s => decide (fit os s = wide s) := List.mem_filter.mpr ⟨h1, decide_eq_true h2⟩
    cases q : sp.filter fun s => decide (fit os s = wide s) with
    | nil => rw [q] at this; exact nomatch this
    | cons _ _ => rw [q] at c; simp at c
  refine WX.nil ?_
  obtain ⟨M, hM, hmax⟩ := exists_max (l := sp.map fun s => ((fit os s : Nat) : Int)) (by simpa using hne)
  refine WX.cons (NoX.ok _) (WS.assign (callee_stor (.inr rfl)) (WE.bu (x := "max") G' (by simp) rfl (WE.comp (.of rfl rfl) (WE.name (d := .lst (sp.map (rkd os))) (by exact loc_ne loc_same) ?_))))
  refine ⟨_, fun i ds ow => ds = (sp.take i).map (fun s => D.int (fit os s)) ∧ ow = [], ItOk.lst, len_map_le (by lia), ⟨by simp, rfl⟩, ?_, ?_⟩
  · intro cl C i e ds ow he ⟨hds, how⟩
    rw [List.getElem?_map] at he
    obtain ⟨s, hsi, rfl⟩ := Option.map_eq_some_iff.mp he
    refine WAsg.tuple (WAsg.name (.inl rfl) (WAsg.name (.inl rfl) ⟨fun _ => WE.name (by exact loc_ne loc_same) ⟨not_own_int, ?_, how⟩, (by intro q; cases q)⟩))
    rw [take_map_snoc hsi, hds]
  intro ds ow ⟨hds, how⟩
  rw [List.length_map, List.take_length] at hds
  subst hds how
  refine ⟨.int M, ?_, ?_⟩
  · have := CallOk.max_lst (Γ := Γ.callee (fnAt 10) L f cd 0) hM hmax
    rw [List.map_map] at this
    exact this.here
  obtain ⟨s0, hs0, hM0⟩ := List.mem_map.mp hM
  have hne3 : ((sp.filter fun s => decide (((fit os s : Nat) : Int) = M)).map fun s => ((wide s : Nat) : Int)) ≠ [] := by
    intro q
    rw [List.map_eq_nil_iff] at q
    have : s0 ∈ sp.filter fun s => decide (((fit os s : Nat) : Int) = M) := List.mem_filter.mpr ⟨hs0, decide_eq_true hM0⟩
    rw [q] at this; exact nomatch this
  obtain ⟨m, hm, hmin⟩ := exists_min hne3
  refine WX.cons (NoX.ok _) (WS.ret (WE.bu (x := "min") G' (by simp) rfl (WE.comp (.of rfl rfl) (WE.name (d := .lst (sp.map (rkd os))) (by exact loc_ne (loc_ne loc_same)) ?_))))
  refine ⟨_, fun i ds ow => ds = ((sp.take i).filter fun s => decide (((fit os s : Nat) : Int) = M)).map (fun s => D.int (wide s)) ∧ ow = [], ItOk.lst, len_map_le (by lia), ⟨by simp, rfl⟩, ?_, ?_⟩
  · intro cl C i e ds ow he ⟨hds, how⟩
    rw [List.getElem?_map] at he
    obtain ⟨s, hsi, rfl⟩ := Option.map_eq_some_iff.mp he
    refine WAsg.tuple (WAsg.name (.inl rfl) (WAsg.name (.inl rfl) ?_))
    refine WT.cmp (WE.name (by exact loc_ne loc_same) (WE.name (d := .int M) (by refine loc_ne (cl1 ?_ ?_ ?_) ?_ <;> first | exact loc_same | rfl) ⟨_, CmpOk.eq_int.here, fun c => ⟨fun _ => ?_, (by intro q; cases q)⟩, fun c => ⟨(by intro q; cases q), fun _ => ?_⟩⟩))
    · refine WE.name loc_same ⟨not_own_int, ?_, how⟩
      rw [take_filter_t hsi (by exact c), hds]
    · refine ⟨?_, how⟩
      rw [take_filter_f hsi (by exact c), hds]
  intro ds ow ⟨hds, how⟩
  rw [List.length_map, List.take_length] at hds
  subst hds how
  refine ⟨.int m, ?_, _, rfl, not_own_int, ?_⟩
  · have := CallOk.min_lst (Γ := Γ.callee (fnAt 10) L f cd 0) hm hmin
    rw [List.map_map] at this
    exact this.here
  · obtain ⟨s, hs1, rfl⟩ := List.mem_map.mp hm
    obtain ⟨hs1, hs2⟩ := List.mem_filter.mp hs1
    have hs2 := of_decide_eq_true hs2
    rw [nextLen_of (n := wide s) (.inr (.inr ⟨hne, hno, s, hs1, rfl, fun s' h1 => ?_, fun s' h1 h2 => ?_⟩))]
    · have := hmax ((fit os s' : Nat) : Int) (List.mem_map.mpr ⟨s', h1, rfl⟩)
      lia
    · have := hmin ((wide s' : Nat) : Int) (List.mem_map.mpr ⟨s', List.mem_filter.mpr ⟨h1, decide_eq_true (by lia)⟩, rfl⟩)
      lia
end Mine

namespace Mine

noncomputable def rank (os : List Int) (s : List Int × List Int) : List Int := [if fit os s = wide s then 1 else 0, if fit os s = wide s then 0 else fit os s, 0 - wide s]
theorem lex3 {a b c a' b' c' : Int} : lexGt [a, b, c] [a', b', c'] = if a = a' then if b = b' then decide (c' < c) else decide (b' < b) else decide (a' < a) := by
  simp only [lexGt]
  split
  · split
    · split
      · rename_i h; subst h; simp
      · rfl
    · rfl
  · rfl
theorem lex_self {a b c : Int} : lexGt [a, b, c] [a, b, c] = false := by rw [lex3]; simp
theorem lex_step {x y z a b c p q r : Int} (h1 : lexGt [x, y, z] [a, b, c] = false) (h2 : lexGt [p, q, r] [a, b, c] = true) : lexGt [x, y, z] [p, q, r] = false := by
  rw [lex3] at h1 h2 ⊢
  split at h1 <;> split at h2 <;> (try split at h1) <;> (try split at h2) <;> simp only [decide_eq_true_eq, decide_eq_false_iff_not] at h1 h2 <;> (split <;> (try split)) <;> simp only [decide_eq_false_iff_not] <;> lia

theorem next_of_rank {sp : Spaces} {os : List Int} {s : List Int × List Int} (hs : s ∈ sp) (h : ∀ s' ∈ sp, lexGt (rank os s') (rank os s) = false) : nextLen sp os = wide s := by
  have hne : sp ≠ [] := by rintro rfl; exact nomatch hs
  refine nextLen_of ?_
  have key : ∀ s' ∈ sp, lexGt (rank os s') (rank os s) = false := h
  unfold rank at key
  simp only [lex3] at key
  by_cases q : fit os s = wide s
  · refine .inr (.inl ⟨s, hs, q, rfl, fun s' h1 h2 => ?_⟩)
    have := key s' h1
    rw [if_pos q, if_pos h2, if_pos q, if_pos h2] at this
    simp at this
    lia
  · refine .inr (.inr ⟨hne, fun s' h1 h2 => ?_, s, hs, rfl, fun s' h1 => ?_, fun s' h1 h2 => ?_⟩)
    · have := key s' h1
      rw [if_neg q, if_pos h2, if_neg q, if_pos h2] at this
      simp at this
    · have := key s' h1
      by_cases q2 : fit os s' = wide s'
      · rw [if_neg q, if_pos q2, if_neg q, if_pos q2] at this
        simp at this
      · rw [if_neg q, if_neg q2, if_neg q, if_neg q2] at this
        rw [if_pos rfl] at this
        split at this
        · lia
        · have := of_decide_eq_false this; lia
    · have := key s' h1
      by_cases q2 : fit os s' = wide s'
      · rw [if_neg q, if_pos q2, if_neg q, if_pos q2] at this
        simp at this
      · rw [if_neg q, if_neg q2, if_neg q, if_neg q2] at this
        rw [if_pos rfl, if_pos (by rw [h2])] at this
        have := of_decide_eq_false this
        lia

structure QIs (x : Int) (σ₁ : St) (d : D) (σ₂ : St) : Prop where
  e : d = .int x
  s : σ₂ = σ₁
structure QIfI (Γ : Cx) (P : Prop) [Decidable P] (x y : Int) (body orelse : Expr) (Q : D → St → Prop) (b : Bool) (σ₁ : St) : Prop where
  e : b = decide P
  t : P → WE Γ body (QIs x σ₁) σ₁
  f : ¬ P → WE Γ orelse (QIs y σ₁) σ₁
  q : Q (.int (if P then x else y)) σ₁
theorem WE.ifInt {Γ : Cx} {σ : St} {P : Prop} [Decidable P] {x y : Int} {test body orelse : Expr} {pos : Pos} {Q : D → St → Prop}
    (h : WT Γ test (QIfI Γ P x y body orelse Q) σ) : WE Γ (.IfExp test body orelse pos) Q σ := by
  refine WE.ifexp (WT.mono h ?_)
  rintro b σ₁ ⟨hb, h1, h2, q⟩
  subst hb
  by_cases hP : P
  · refine ⟨fun _ => WE.mono (h1 hP) ?_, fun c => absurd hP (of_decide_eq_false c)⟩
    rintro d σ₂ ⟨rfl, rfl⟩
    rw [if_pos hP] at q; exact q
  · refine ⟨fun c => absurd (of_decide_eq_true c) hP, fun _ => WE.mono (h2 hP) ?_⟩
    rintro d σ₂ ⟨rfl, rfl⟩
    rw [if_neg hP] at q; exact q

def optD : Option (List Int) → D
  | none => .none
  | some R => dkey R
inductive JBest (sp : Spaces) (os : List Int) (i : Nat) (σ : St) : Prop
  | mk (b : Option (List Int)) (j1 : σ.loc "best" = some (optD b)) (j2 : σ.loc "octets" = some (.lst (os.map .int))) (j3 : (b = none → i = 0)) (j4 : (∀ R, b = some R → (∃ s ∈ sp.take i, R = rank os s) ∧ ∀ s ∈ sp.take i, lexGt (rank os s) R = false))
theorem b_law_length {Γ : Cx} (G : GE Γ) (hlv : 3 ≤ Γ.lv) (sp : Spaces) (os : List Int) (hs : SpOk sp) :
    Body Γ (fnAt 22) ["spaces", "octets"] [.lst (sp.map spl), .lst (os.map .int)] [] (fun r _ => r = .int (nextLen sp os)) := by
  intro L f cd
  have G' : GE (Γ.callee (fnAt 22) L f cd 0) := G
  have hfew := hs.few
  refine WX.cons (NoX.ok _) (WS.assign (.inl rfl) (WE.const_none ?_))
  refine WX.cons (NoX.ok _) (WS.for_ (WE.name (d := .lst (sp.map spl)) (by rfl) ?_))
  refine ⟨_, JBest sp os, ItOk.lst, ⟨none, by rfl, by rfl, fun _ => rfl, fun R q => by cases q⟩, ?_, ?_⟩
  · rintro i e σ he ⟨b, e1, e2, hb0, hb⟩
    rw [List.getElem?_map] at he
    obtain ⟨s, hsi, rfl⟩ := Option.map_eq_some_iff.mp he
    have hmem := List.mem_of_getElem? hsi
    have hn := hs.len s hmem
    refine WAsg.name (.inl rfl) ?_
    refine WX.cons (NoX.ok _) (WS.assign (.inl rfl) (WE.def (i := 21) G' (by decide) k_law_fits c_law_fits (by show 1 ≤ Γ.lv - 1; lia) rfl ?_))
    refine WE.name (d := spl s) loc_same (WE.name (by exact loc_ne e2) ⟨rfl, ?_, _, b_law_fits (by exact G) s.1 s.2 os, ?_⟩)
    · intro d hd
      simp only [List.mem_cons, List.not_mem_nil, or_false] at hd
      rcases hd with rfl | rfl
      · exact not_own_tup
      · exact not_own_lst
    rintro r rfl
    refine WX.cons (NoX.ok _) (WS.assign (.inl rfl) (WE.bu (x := "len") G' (by simp) rfl (WE.sub (WE.name (d := spl s) (by exact loc_ne loc_same) (WE.const_int ⟨_, ItemOk.tup (by decide) (by decide) rfl, ⟨_, (CallOk.len_lst (len_map_le (by lia))).here, ?_⟩⟩)))))
    rw [List.length_map]
    refine WX.cons (NoX.ok _) (WS.assign (.inl rfl) (WE.tuple ?_))
    refine WE.ifInt (P := fit os s = wide s) (x := 1) (y := 0) (WT.cmp (WE.name (by exact loc_ne loc_same) (WE.name loc_same ⟨_, CmpOk.eq_int.here, by rw [decide_eq_decide]; exact Int.ofNat_inj, fun _ => WE.const_int ⟨rfl, rfl⟩, fun _ => WE.const_int ⟨rfl, rfl⟩, ?_⟩)))
    refine WE.ifInt (P := fit os s = wide s) (x := 0) (y := (fit os s : Nat)) (WT.cmp (WE.name (by exact loc_ne loc_same) (WE.name loc_same ⟨_, CmpOk.eq_int.here, by rw [decide_eq_decide]; exact Int.ofNat_inj, fun _ => WE.const_int ⟨rfl, rfl⟩, fun _ => WE.name (by exact loc_ne loc_same) ⟨rfl, rfl⟩, ?_⟩)))
    refine WE.binop (WE.const_int (WE.name loc_same ⟨_, BinOk.sub_int, ⟨?_, three_le, ?_⟩⟩))
    · intro d hd
      simp only [List.mem_cons, List.not_mem_nil, or_false] at hd
      rcases hd with rfl | rfl | rfl <;> exact not_own_int
    have hrank : D.tup [D.int (if fit os s = wide s then 1 else 0), D.int (if fit os s = wide s then 0 else ((fit os s : Nat) : Int)), D.int (0 - ((s.1.length : Nat) : Int))] = dkey (rank os s) := rfl
    show QSet _ _ (D.tup _) _
    rw [hrank]
    refine WX.cons (NoX.ok _) (WS.if_ (NoX.ok _) (WT.or_cons (WT.cmp (WE.name (by exact loc_ne (loc_ne (loc_ne (loc_ne e1)))) (WE.const_none ⟨_, CmpOk.is_none.here, fun c => ?_, fun c => ?_⟩)))))
    · have hbn : b = none := by
        cases b with
        | none => rfl
        | some R => exact absurd c (by simp [optD, dkey, D.isNone])
      have hi0 := hb0 hbn
      subst hi0
      refine ⟨fun _ => WX.cons (NoX.ok _) (WS.assign (.inl rfl) (WE.name loc_same (WX.nil (WX.nil ?_)))), (by intro q; cases q)⟩
      refine ⟨some (rank os s), loc_same, by exact loc_ne (loc_ne (loc_ne (loc_ne (loc_ne e2)))), fun q => (by cases q), fun R q => ?_⟩
      cases q
      rw [take_snoc hsi]
      refine ⟨⟨s, by simp, rfl⟩, fun s' h' => ?_⟩
      simp only [List.take_zero, List.nil_append, List.mem_singleton] at h'
      subst h'
      exact lex_self
    · obtain ⟨R, hR⟩ : ∃ R, b = some R := by
        cases b with
        | none => exact absurd c (by simp [optD, D.isNone])
        | some R => exact ⟨R, rfl⟩
      subst hR
      obtain ⟨⟨s0, h0, rfl⟩, hmax⟩ := hb R rfl
      refine WT.or_cons (WT.cmp (WE.name loc_same (WE.name (by exact loc_ne (loc_ne (loc_ne (loc_ne e1)))) ⟨_, CmpOk.gt_key.here, fun c2 => ?_, fun c2 => ?_⟩)))
      · refine ⟨fun _ => WX.cons (NoX.ok _) (WS.assign (.inl rfl) (WE.name loc_same (WX.nil (WX.nil ?_)))), (by intro q; cases q)⟩
        refine ⟨some (rank os s), loc_same, by exact loc_ne (loc_ne (loc_ne (loc_ne (loc_ne e2)))), fun q => (by cases q), fun R q => ?_⟩
        cases q
        rw [take_snoc hsi]
        refine ⟨⟨s, by simp, rfl⟩, fun s' h' => ?_⟩
        rcases List.mem_append.mp h' with h' | h'
        · exact lex_step (hmax s' h') c2
        · rw [List.mem_singleton.mp h']; exact lex_self
      · refine WT.or_nil ⟨(by intro q; cases q), fun _ => WX.nil (WX.nil ?_)⟩
        refine ⟨some (rank os s0), by exact loc_ne (loc_ne (loc_ne (loc_ne e1))), by exact loc_ne (loc_ne (loc_ne (loc_ne e2))), fun q => (by cases q), fun R q => ?_⟩
        cases q
        rw [take_snoc hsi]
        refine ⟨⟨s0, by simp [h0], rfl⟩, fun s' h' => ?_⟩
        rcases List.mem_append.mp h' with h' | h'
        · exact hmax s' h'
        · rw [List.mem_singleton.mp h']; exact c2
  · rintro σ ⟨b, e1, e2, hb0, hb⟩
    rw [List.length_map] at hb0 hb
    rw [List.take_length] at hb
    refine WX.cons (NoX.ok _) (WS.ret (WE.ifexp (WT.cmp (WE.name e1 (WE.const_none ⟨_, CmpOk.is_none.here, fun c => ?_, fun c => ?_⟩)))))
    · have hbn : b = none := by
        cases b with
        | none => rfl
        | some R => exact absurd c (by simp [optD, dkey, D.isNone])
      have : sp = [] := List.length_eq_zero_iff.mp (hb0 hbn)
      refine WE.const_int ⟨_, rfl, not_own_int, ?_⟩
      rw [nextLen_of (n := 1) (.inl ⟨this, rfl⟩)]; rfl
    · obtain ⟨R, hR⟩ : ∃ R, b = some R := by
        cases b with
        | none => exact absurd c (by simp [optD, D.isNone])
        | some R => exact ⟨R, rfl⟩
      subst hR
      obtain ⟨⟨s0, h0, rfl⟩, hmax⟩ := hb R rfl
      refine WE.binop (WE.const_int (WE.sub (WE.name e1 (WE.const_int ⟨_, ItemOk.tup (d := .int (0 - ((wide s0 : Nat) : Int))) (by decide) (by decide) rfl, ⟨_, BinOk.sub_int, _, rfl, not_own_int, ?_⟩⟩))))
      rw [next_of_rank h0 hmax]
      congr 1; lia
end Mine

namespace Mine

theorem fz_own {σ : St} {i : Nat} {o : OO} {x : Str} (h : σ.loc x = some (.own i)) : (σ.freeze i o).loc x = some o.toD := by
  unfold St.freeze; simp [h, D.thaw]
theorem fz_ne {σ : St} {i : Nat} {o : OO} {x : Str} {d : D} (h : σ.loc x = some d) (hd : ∀ i, d ≠ .own i) : (σ.freeze i o).loc x = some d := by
  unfold St.freeze
  show (σ.loc x).map _ = _
  rw [h]
  cases d <;> first | rfl | exact absurd rfl (hd _)
theorem clip_nat {n k : Nat} : clipAt n (k : Int) = min k n := by
  unfold clipAt
  rw [if_neg (by lia)]; lia

theorem isNext_take {sp : Spaces} {os : List Int} (hs : SpOk sp) {n k : Nat} (hk : 4 ≤ k) (h : IsNext sp os n) : IsNext sp (os.take k) n := by
  have e : ∀ s ∈ sp, fit (os.take k) s = fit os s := fun s hm => fitL_take _ _ _ _ (by have := (hs.len s hm).2.2; lia)
  rcases h with h | ⟨s, h1, h2, h3, h4⟩ | ⟨h0, h1, s, h2, h3, h4, h5⟩
  · exact .inl h
  · exact .inr (.inl ⟨s, h1, by rw [e s h1]; exact h2, h3, fun s' m q => h4 s' m (by rw [← e s' m]; exact q)⟩)
  · exact .inr (.inr ⟨h0, fun s' m => by rw [e s' m]; exact h1 s' m, s, h2, h3, fun s' m => by rw [e s' m, e s h2]; exact h4 s' m, fun s' m q => h5 s' m (by rw [← e s' m, q, e s h2])⟩)
theorem next_ex (sp : Spaces) (os : List Int) : ∃ n, IsNext sp os n := by
  by_cases h0 : sp = []
  · exact ⟨1, .inl ⟨h0, rfl⟩⟩
  by_cases h1 : ∃ s ∈ sp, fit os s = wide s
  · obtain ⟨s, hs, hf⟩ := h1
    have hne : ((sp.filter fun s => decide (fit os s = wide s)).map fun s => ((wide s : Nat) : Int)) ≠ [] := by
      intro q
      rw [List.map_eq_nil_iff] at q
      have : s ∈ sp.filter fun s => decide (fit os s = wide s) := List.mem_filter.mpr ⟨hs, decide_eq_true hf⟩
      rw [q] at this; exact nomatch this
    obtain ⟨m, hm, hmin⟩ := exists_min hne
    obtain ⟨s, hs1, rfl⟩ := List.mem_map.mp hm
    obtain ⟨hs1, hs2⟩ := List.mem_filter.mp hs1
    refine ⟨wide s, .inr (.inl ⟨s, hs1, of_decide_eq_true hs2, rfl, fun s' h1 h2 => ?_⟩)⟩
    have := hmin ((wide s' : Nat) : Int) (List.mem_map.mpr ⟨s', List.mem_filter.mpr ⟨h1, decide_eq_true h2⟩, rfl⟩)
    lia
  · have hno : ∀ s ∈ sp, fit os s ≠ wide s := fun s hs hf => h1 ⟨s, hs, hf⟩
    obtain ⟨M, hM, hmax⟩ := exists_max (l := sp.map fun s => ((fit os s : Nat) : Int)) (by simpa using h0)
    obtain ⟨s0, hs0, hM0⟩ := List.mem_map.mp hM
    have hne3 : ((sp.filter fun s => decide (((fit os s : Nat) : Int) = M)).map fun s => ((wide s : Nat) : Int)) ≠ [] := by
      intro q
      rw [List.map_eq_nil_iff] at q
      have : s0 ∈ sp.filter fun s => decide (((fit os s : Nat) : Int) = M) := List.mem_filter.mpr ⟨hs0, decide_eq_true hM0⟩
      rw [q] at this; exact nomatch this
    obtain ⟨m, hm, hmin⟩ := exists_min hne3
    obtain ⟨s, hs1, rfl⟩ := List.mem_map.mp hm
    obtain ⟨hs1, hs2⟩ := List.mem_filter.mp hs1
    have hs2 := of_decide_eq_true hs2
    refine ⟨wide s, .inr (.inr ⟨h0, hno, s, hs1, rfl, fun s' h1 => ?_, fun s' h1 h2 => ?_⟩)⟩
    · have := hmax ((fit os s' : Nat) : Int) (List.mem_map.mpr ⟨s', h1, rfl⟩)
      lia
    · have := hmin ((wide s' : Nat) : Int) (List.mem_map.mpr ⟨s', List.mem_filter.mpr ⟨h1, decide_eq_true (by lia)⟩, rfl⟩)
      lia
theorem next_is (sp : Spaces) (os : List Int) : IsNext sp os (nextLen sp os) := by
  obtain ⟨n, h⟩ := next_ex sp os
  rw [nextLen_of h]; exact h
theorem next_range {sp : Spaces} (hs : SpOk sp) (os : List Int) : 1 ≤ nextLen sp os ∧ nextLen sp os ≤ 4 := by
  rcases next_is sp os with ⟨_, e⟩ | ⟨s, h1, _, h3, _⟩ | ⟨_, _, s, h2, h3, _⟩
  · lia
  · have := (hs.len s h1).2; rw [h3]; exact this
  · have := (hs.len s h2).2; rw [h3]; exact this
theorem next_take {sp : Spaces} (hs : SpOk sp) (os : List Int) {k : Nat} (hk : 4 ≤ k) : nextLen sp (os.take k) = nextLen sp os := nextLen_of (isNext_take hs hk (next_is sp os))

/-- the key of one part -/
def keyOf (p : List Int) : List Int := [(p.length : Int), numB p]
noncomputable def cutF (sp : Spaces) : Nat → List Int → List (List Int)
  | 0, _ => []
  | n + 1, os => if os = [] then [] else os.take (nextLen sp os) :: cutF sp n (os.drop (os.take (nextLen sp os)).length)
noncomputable def cutL (sp : Spaces) (os : List Int) : List (List Int) := cutF sp os.length os
theorem cutF_nil (sp : Spaces) (n : Nat) : cutF sp n [] = [] := by cases n <;> simp [cutF]
theorem part_len {sp : Spaces} (hs : SpOk sp) {os : List Int} (h : os ≠ []) : 1 ≤ (os.take (nextLen sp os)).length ∧ (os.take (nextLen sp os)).length ≤ 4 := by
  have := next_range hs os
  have : 0 < os.length := List.length_pos_iff.mpr h
  rw [List.length_take]; lia
theorem cutF_fuel {sp : Spaces} (hs : SpOk sp) : ∀ (n m : Nat) (os : List Int), os.length ≤ n → os.length ≤ m → cutF sp n os = cutF sp m os
  | 0, m, os, h1, _ => by
    have : os = [] := List.length_eq_zero_iff.mp (by lia)
    subst this; rw [cutF_nil, cutF_nil]
  | n + 1, 0, os, _, h2 => by
    have : os = [] := List.length_eq_zero_iff.mp (by lia)
    subst this; rw [cutF_nil, cutF_nil]
  | n + 1, m + 1, os, h1, h2 => by
    unfold cutF
    by_cases q : os = []
    · rw [if_pos q, if_pos q]
    · have := part_len hs q
      rw [if_neg q, if_neg q, cutF_fuel hs n m _ (by rw [List.length_drop]; lia) (by rw [List.length_drop]; lia)]
theorem cutL_step {sp : Spaces} (hs : SpOk sp) {os : List Int} (h : os ≠ []) : cutL sp os = os.take (nextLen sp os) :: cutL sp (os.drop (os.take (nextLen sp os)).length) := by
  have hp := part_len hs h
  have hl : 0 < os.length := List.length_pos_iff.mpr h
  unfold cutL
  obtain ⟨n, hn⟩ : ∃ n, os.length = n + 1 := ⟨os.length - 1, by lia⟩
  have e : cutF sp os.length os = cutF sp (n + 1) os := by rw [hn]
  rw [e]
  show (if os = [] then [] else os.take (nextLen sp os) :: cutF sp n (os.drop (os.take (nextLen sp os)).length)) = _
  rw [if_neg h, cutF_fuel hs n _ _ (by rw [List.length_drop]; lia) (Nat.le_refl _)]
theorem cutL_nil (sp : Spaces) : cutL sp [] = [] := rfl
theorem cutL_sub {sp : Spaces} (hs : SpOk sp) : ∀ (n : Nat) (os : List Int), os.length ≤ n → ∀ p ∈ cutL sp os, (1 ≤ p.length ∧ p.length ≤ 4) ∧ ∀ o ∈ p, o ∈ os
  | 0, os, h, p, hp => by
    have : os = [] := List.length_eq_zero_iff.mp (by lia)
    subst this; exact nomatch hp
  | n + 1, os, h, p, hp => by
    by_cases q : os = []
    · subst q; exact nomatch hp
    · rw [cutL_step hs q] at hp
      have hl := part_len hs q
      rcases List.mem_cons.mp hp with rfl | hp
      · exact ⟨hl, fun o ho => List.mem_of_mem_take ho⟩
      · obtain ⟨h1, h2⟩ := cutL_sub hs n _ (by rw [List.length_drop]; lia) p hp
        exact ⟨h1, fun o ho => List.mem_of_mem_drop (h2 o ho)⟩
theorem cutL_len {sp : Spaces} (hs : SpOk sp) : ∀ (n : Nat) (os : List Int), os.length ≤ n → (cutL sp os).length ≤ os.length
  | 0, os, h => by
    have : os = [] := List.length_eq_zero_iff.mp (by lia)
    subst this; exact Nat.le_refl _
  | n + 1, os, h => by
    by_cases q : os = []
    · subst q; exact Nat.le_refl _
    · rw [cutL_step hs q, List.length_cons]
      have hl := part_len hs q
      have := cutL_len hs n (os.drop (os.take (nextLen sp os)).length) (by rw [List.length_drop]; lia)
      rw [List.length_drop] at this
      have : 0 < os.length := List.length_pos_iff.mpr q
      lia
noncomputable def keysL (sp : Spaces) (os : List Int) : List (List Int) := (cutL sp os).map keyOf
abbrev cmapD (sp : Spaces) (ch : D) : D := .cmap (.lst (sp.map spc)) ch

inductive JCodes (sp : Spaces) (ch : D) (os : List Int) (k : Nat) (σ : St) : Prop
  | mk (p : Nat) (done : List (List Int)) (j1 : k = os.length - p) (j2 : σ.loc "place" = some (.int p)) (j3 : σ.loc "found" = some (.own 0)) (j4 : σ.own = [.lst (done.map dkey)]) (j5 : σ.loc "cmap" = some (cmapD sp ch)) (j6 : σ.loc "octets" = some (.bytes os)) (j7 : keysL sp os = done ++ keysL sp (os.drop p)) (j8 : done.length ≤ p)
theorem b_split_codes {Γ : Cx} (G : GE Γ) (hlv : 6 ≤ Γ.lv) (sp : Spaces) (ch : D) (os : List Int) (hs : SpOk sp) (ho : os.length ≤ 1000) (hch : ∀ i, ch ≠ .own i) :
    Body Γ (fnAt 11) ["cmap", "octets"] [cmapD sp ch, .bytes os] [] (fun r _ => r = .lst ((keysL sp os).map dkey)) := by
  intro L f cd
  have G' : GE (Γ.callee (fnAt 11) L f cd 0) := G
  refine WX.cons (NoX.ok _) (WS.assign (.inl rfl) (WE.listOwn ⟨by simp, Nat.zero_le _, ?_⟩))
  refine WX.cons (NoX.ok _) (WS.assign (.inl rfl) (WE.const_int ?_))
  refine WX.cons (NoX.ok _) (WS.while_ (Ei := NoX) (NoX.ok _) (JCodes sp ch os) os.length
    ⟨0, [], rfl, by rfl, by rfl, rfl, by rfl, by rfl, by simp, by simp⟩ (fun _ _ _ _ x => x.elim) ?_)
  rintro k σ ⟨p, done, rfl, e1, e2, e3, e4, e5, hk, hd⟩
  refine WT.cmp (WE.name e1 (WE.bu (x := "len") G' (by simp) rfl (WE.name e5 ⟨_, (CallOk.len_bytes (by lia)).here, ⟨_, CmpOk.lt_int.here, fun c => ?_, fun c => ?_⟩⟩)))
  · have c := of_decide_eq_true c
    have hp : p < os.length := by lia
    have hne : os.drop p ≠ [] := by intro q; rw [List.drop_eq_nil_iff] at q; lia
    have hpl := part_len hs hne
    refine WX.cons (NoX.ok _) (WS.assign (.inl rfl) (WE.slice (WE.name e5 (WE.name e1 ⟨_, rfl, WE.binop (WE.name e1 (WE.most G' rfl ⟨_, BinOk.add_int, _, rfl, ⟨_, SliceOk.bytes (by rw [sizeLine_eq]; lia), ?_⟩⟩))⟩))))
    have ea : ((os.drop ((some (p : Int)).elim 0 (clipAt os.length))).take ((some ((p : Int) + 4)).elim os.length (clipAt os.length) - (some (p : Int)).elim 0 (clipAt os.length))) = (os.drop p).take 4 := by
      show (os.drop (clipAt os.length (p : Int))).take (clipAt os.length ((p : Int) + 4) - clipAt os.length (p : Int)) = _
      have : ((p : Int) + 4) = ((p + 4 : Nat) : Int) := by lia
      have m1 : min p os.length = p := by lia
      rw [this, clip_nat, clip_nat, m1, List.take_eq_take_iff, List.length_drop]
      lia
    rw [ea]
    have hal : ((os.drop p).take 4).length ≤ 4 := by rw [List.length_take]; lia
    refine WX.cons (NoX.ok _) (WS.assign (.inl rfl) (WE.slice (WE.name loc_same ?_)))
    refine WE.def (i := 10) G' (by decide) k_next_length c_next_length (by show 1 ≤ Γ.lv - 1; lia) rfl ?_
    refine WE.attr G'.cmOk (by exact loc_ne e4) (.inl ⟨rfl, rfl⟩) not_own_lst hch (WE.name loc_same ⟨rfl, ?_, _, b_next_length (by exact G) (by show 4 ≤ Γ.lv - 1; lia) sp _ hs (by lia), ?_⟩) (by decide) (by with_unfolding_all rfl)
    · intro d hd
      simp only [List.mem_cons, List.not_mem_nil, or_false] at hd
      rcases hd with rfl | rfl
      · exact not_own_lst
      · exact not_own_bytes
    rintro r rfl
    refine ⟨_, rfl, ⟨_, SliceOk.bytes (by rw [sizeLine_eq]; lia), ?_⟩⟩
    have eb : ((((os.drop p).take 4).drop ((none : Option Int).elim 0 (clipAt ((os.drop p).take 4).length))).take ((some ((nextLen sp ((os.drop p).take 4) : Nat) : Int)).elim ((os.drop p).take 4).length (clipAt ((os.drop p).take 4).length) - (none : Option Int).elim 0 (clipAt ((os.drop p).take 4).length))) = (os.drop p).take (nextLen sp (os.drop p)) := by
      rw [next_take hs _ (Nat.le_refl _)]
      have := next_range hs (os.drop p)
      show (((os.drop p).take 4).drop 0).take (clipAt ((os.drop p).take 4).length ((nextLen sp (os.drop p) : Nat) : Int) - 0) = _
      rw [clip_nat, List.drop_zero, Nat.sub_zero, List.take_take, List.take_eq_take_iff, List.length_take]
      lia
    rw [eb]
    have hstep : keysL sp (os.drop p) = keyOf ((os.drop p).take (nextLen sp (os.drop p))) :: keysL sp (os.drop (p + ((os.drop p).take (nextLen sp (os.drop p))).length)) := by
      unfold keysL
      rw [cutL_step hs hne, List.map_cons, List.drop_drop]
    generalize hP : (os.drop p).take (nextLen sp (os.drop p)) = P at hpl hstep
    refine WX.cons (NoX.ok _) (WS.expr (WE.method mAppend (WE.name (by exact loc_ne (loc_ne e2)) ⟨SelfOk.own (ds := done.map dkey) (by show σ.own[0]? = _; rw [e3]; rfl), ?_⟩)))
    refine WE.tuple (WE.bu (x := "len") G' (by simp) rfl (WE.name loc_same ⟨_, (CallOk.len_bytes (by lia)).here, ?_⟩))
    refine WE.def (i := 7) G' (by decide) k_code_of c_code_of (by show 1 ≤ Γ.lv - 1; lia) rfl (WE.name loc_same ⟨rfl, ?_, _, b_code_of P, ?_⟩)
    · intro d hd
      rw [List.mem_singleton.mp hd]; exact not_own_bytes
    rintro r rfl
    refine ⟨?_, two_le, WCall.append (ds := done.map dkey) (by show σ.own[0]? = _; rw [e3]; rfl) not_own_tup (by rw [List.length_map, sizeLine_eq]; lia) ⟨rfl, ?_⟩⟩
    · intro d hd
      simp only [List.mem_cons, List.not_mem_nil, or_false] at hd
      rcases hd with rfl | rfl <;> exact not_own_int
    refine WX.cons (NoX.ok _) (WS.assign (.inl rfl) (WE.binop (WE.name (d := .int p) (by exact loc_mk (loc_ne (loc_ne e1))) (WE.bu (x := "len") G' (by simp) rfl (WE.name (d := .bytes P) (by exact loc_mk loc_same) ⟨_, (CallOk.len_bytes (by lia)).here, ⟨_, BinOk.add_int, WX.nil ?_⟩⟩)))))
    refine ⟨os.length - (p + P.length), by lia, p + P.length, done ++ [keyOf P], rfl, ?_, ?_, ?_, ?_, ?_, ?_, ?_⟩
    · rw [loc_same]; rfl
    · exact loc_ne (loc_mk (loc_ne (loc_ne e2)))
    · show (σ.own.set 0 _) = _
      rw [e3, List.map_append]; rfl
    · exact loc_ne (loc_mk (loc_ne (loc_ne e4)))
    · exact loc_ne (loc_mk (loc_ne (loc_ne e5)))
    · rw [hk, hstep]; simp
    · rw [List.length_append, List.length_singleton]; lia
  · have c := of_decide_eq_false c
    have hp : os.length ≤ p := by lia
    rw [List.drop_eq_nil_of_le hp] at hk
    have hk : keysL sp os = done := by rw [hk]; simp [keysL, cutL_nil]
    refine WX.freeze 0 (.lst (done.map dkey)) (NoX.ok _) (by rw [e3]; rfl) nofun (Nat.le_refl _) ?_
    exact WX.cons (NoX.ok _) (WS.ret (WE.name (fz_own e2) ⟨_, rfl, not_own_lst, by rw [hk]; rfl⟩))
end Mine

namespace Mine

abbrev intsD (os : List Int) : D := .lst (os.map .int)
theorem slice_ints {σ : St} {Γ : Cx} {os : List Int} {lo hi : Option Int} {a b : Nat} (hz : os.length ≤ 1000) (ea : lo.elim 0 (clipAt os.length) = a) (eb : hi.elim os.length (clipAt os.length) = b) : SliceOk Γ σ (intsD os) lo hi (intsD ((os.drop a).take (b - a))) := by
  have := SliceOk.list (Γ := Γ) (σ := σ) (ds := os.map D.int) (lo := lo) (hi := hi) (len_map_le hz)
  rw [List.length_map, ea, eb, ← List.map_drop, ← List.map_take] at this
  exact this

inductive JCut (sp : Spaces) (os : List Int) (k : Nat) (σ : St) : Prop
  | mk (p : Nat) (done : List (List Int)) (j1 : k = os.length - p) (j2 : σ.loc "rest" = some (intsD (os.drop p))) (j3 : σ.loc "found" = some (.own 0)) (j4 : σ.own = [.lst (done.map dkey)]) (j5 : σ.loc "spaces" = some (.lst (sp.map spl))) (j6 : keysL sp os = done ++ keysL sp (os.drop p)) (j7 : done.length ≤ p) (j8 : p ≤ os.length)
theorem b_law_cut {Γ : Cx} (G : GE Γ) (hlv : 6 ≤ Γ.lv) (sp : Spaces) (os : List Int) (hs : SpOk sp) (ho : os.length ≤ 1000) (hr : ∀ o ∈ os, 0 ≤ o ∧ o < 256) :
    Body Γ (fnAt 24) ["spaces", "octets"] [.lst (sp.map spl), intsD os] [] (fun r _ => r = .lst ((keysL sp os).map dkey)) := by
  intro L f cd
  have G' : GE (Γ.callee (fnAt 24) L f cd 0) := G
  refine WX.cons (NoX.ok _) (WS.assign (.inl rfl) (WE.listOwn ⟨by simp, Nat.zero_le _, ?_⟩))
  refine WX.cons (NoX.ok _) (WS.assign (.inl rfl) (WE.name (d := intsD os) (by rfl) ?_))
  refine WX.cons (NoX.ok _) (WS.while_ (Ei := NoX) (NoX.ok _) (JCut sp os) os.length
    ⟨0, [], rfl, by rfl, by rfl, rfl, by rfl, by simp, by simp, by simp⟩ (fun _ _ _ _ x => x.elim) ?_)
  rintro k σ ⟨p, done, rfl, e1, e2, e3, e4, hk, hd, hpl⟩
  have hdl : (os.drop p).length = os.length - p := List.length_drop
  refine WT.value (WE.name e1 ⟨_, TruthOk.lst (len_map_le (by lia)), fun c => ?_, fun c => ?_⟩) (by intro _; rfl)
  · have hne : os.drop p ≠ [] := by intro q; rw [q] at c; simp at c
    have hp : p < os.length := by
      rcases Nat.lt_or_ge p os.length with q | q
      · exact q
      · exact absurd (List.drop_eq_nil_of_le q) hne
    have hpl := part_len hs hne
    refine WX.cons (NoX.ok _) (WS.assign (.inl rfl) (WE.slice (WE.name e1 ?_)))
    refine WE.def (i := 22) G' (by decide) k_law_length c_law_length (by show 1 ≤ Γ.lv - 1; lia) rfl ?_
    refine WE.name e4 (WE.name e1 ⟨rfl, ?_, _, b_law_length (by exact G) (by show 3 ≤ Γ.lv - 1; lia) sp _ hs, ?_⟩)
    · intro d hd
      simp only [List.mem_cons, List.not_mem_nil, or_false] at hd
      rcases hd with rfl | rfl <;> exact not_own_lst
    rintro r rfl
    refine ⟨_, rfl, ⟨_, slice_ints (a := 0) (b := min (nextLen sp (os.drop p)) (os.drop p).length) (by lia) rfl clip_nat, ?_⟩⟩
    rw [List.drop_zero, Nat.sub_zero]
    have eb : (os.drop p).take (min (nextLen sp (os.drop p)) (os.drop p).length) = (os.drop p).take (nextLen sp (os.drop p)) := by rw [List.take_eq_take_iff]; lia
    rw [eb]
    have hstep : keysL sp (os.drop p) = keyOf ((os.drop p).take (nextLen sp (os.drop p))) :: keysL sp (os.drop (p + ((os.drop p).take (nextLen sp (os.drop p))).length)) := by
      unfold keysL
      rw [cutL_step hs hne, List.map_cons, List.drop_drop]
    have hin : ∀ o ∈ (os.drop p).take (nextLen sp (os.drop p)), 0 ≤ o ∧ o < 256 := fun o ho => hr o (List.mem_of_mem_drop (List.mem_of_mem_take ho))
    have hle : ((os.drop p).take (nextLen sp (os.drop p))).length ≤ (os.drop p).length := List.length_take_le' ..
    generalize hP : (os.drop p).take (nextLen sp (os.drop p)) = P at hpl hstep hin hle
    refine WX.cons (NoX.ok _) (WS.expr (WE.method mAppend (WE.name (by exact loc_ne e2) ⟨SelfOk.own (ds := done.map dkey) (by show σ.own[0]? = _; rw [e3]; rfl), ?_⟩)))
    refine WE.tuple (WE.bu (x := "len") G' (by simp) rfl (WE.name loc_same ⟨_, (CallOk.len_lst (len_map_le (by lia))).here, ?_⟩))
    rw [List.length_map]
    refine WE.def (i := 23) G' (by decide) k_law_number c_law_number (by show 1 ≤ Γ.lv - 1; lia) rfl (WE.name loc_same ⟨rfl, ?_, _, b_law_number (by exact G) P ⟨hpl.2, hin⟩, ?_⟩)
    · intro d hd
      rw [List.mem_singleton.mp hd]; exact not_own_lst
    rintro r rfl
    refine ⟨?_, two_le, WCall.append (ds := done.map dkey) (by show σ.own[0]? = _; rw [e3]; rfl) not_own_tup (by rw [List.length_map, sizeLine_eq]; lia) ⟨rfl, ?_⟩⟩
    · intro d hd
      simp only [List.mem_cons, List.not_mem_nil, or_false] at hd
      rcases hd with rfl | rfl <;> exact not_own_int
    refine WX.cons (NoX.ok _) (WS.assign (.inl rfl) (WE.slice (WE.name (by exact loc_mk (loc_ne e1)) (WE.bu (x := "len") G' (by simp) rfl (WE.name (d := intsD P) (by exact loc_mk loc_same) ⟨_, (CallOk.len_lst (len_map_le (by lia))).here, ?_⟩)))))
    rw [List.length_map]
    refine ⟨_, rfl, ⟨_, slice_ints (a := P.length) (b := (os.drop p).length) (by lia) (by show clipAt _ _ = _; rw [clip_nat]; lia) rfl, WX.nil ?_⟩⟩
    have er : ((os.drop p).drop P.length).take ((os.drop p).length - P.length) = os.drop (p + P.length) := by
      rw [List.drop_drop, List.take_of_length_le (by rw [List.length_drop, List.length_drop]; lia)]
    rw [er]
    refine ⟨os.length - (p + P.length), by lia, p + P.length, done ++ [keyOf P], rfl, loc_same, ?_, ?_, ?_, ?_, ?_, ?_⟩
    · exact loc_ne (loc_mk (loc_ne e2))
    · show (σ.own.set 0 _) = _
      rw [e3, List.map_append]; rfl
    · exact loc_ne (loc_mk (loc_ne e4))
    · rw [hk, hstep]; simp
    · rw [List.length_append, List.length_singleton]; lia
    · lia
  · have hz : os.drop p = [] := by cases q : os.drop p with
      | nil => rfl
      | cons _ _ => rw [q] at c; simp at c
    rw [hz] at hk
    have hk : keysL sp os = done := by rw [hk]; simp [keysL, cutL_nil]
    refine WX.freeze 0 (.lst (done.map dkey)) (NoX.ok _) (by rw [e3]; rfl) nofun (Nat.le_refl _) ?_
    exact WX.cons (NoX.ok _) (WS.ret (WE.name (fz_own e2) ⟨_, rfl, not_own_lst, by rw [hk]; rfl⟩))
end Mine

namespace Mine

abbrev Chars := List (List Int × Str)
def charsD (al : Chars) : D := dtd (al.map fun x => (x.1, .str x.2))
def KeyOk (k : List Int) : Prop := ∃ (l : Nat) (c : Int), k = [(l : Int), c] ∧ 1 ≤ l ∧ l ≤ 4 ∧ 0 ≤ c ∧ c < 256 ^ l
structure ChOk (al : Chars) : Prop where
  few : al.length ≤ 16
  keys : ∀ x ∈ al, KeyOk x.1
  txt : ∀ x ∈ al, x.2.length ≤ 2
  nd : (al.map (·.1)).Nodup
theorem look_map {al : Chars} {k : List Int} : look (al.map fun x => (x.1, D.str x.2)) k = (look al k).map D.str := by
  unfold look
  rw [List.find?_map, Option.map_map, Option.map_map]; rfl
def textAt (al : Chars) (k : List Int) : Str := (look al k).getD ""
theorem textAt_len {al : Chars} (h : ChOk al) (k : List Int) : (textAt al k).length ≤ 2 := by
  unfold textAt look
  cases q : al.find? fun x => decide (x.1 = k) with
  | none => show (Str.ofString "").length ≤ 2; decide
  | some x => exact h.txt x (List.mem_of_find?_eq_some q)
def joinT (xs : List Str) : Str := Txt.join "" xs
theorem sum_le2 : ∀ {l : List Nat}, (∀ x ∈ l, x ≤ 2) → l.sum ≤ 2 * l.length
  | [], _ => by simp
  | x :: l, h => by
    have h1 := h x List.mem_cons_self
    have h2 := sum_le2 fun y hy => h y (List.mem_cons_of_mem _ hy)
    simp only [List.sum_cons, List.length_cons]; lia
theorem join_fits {xs : List Str} (h : ∀ x ∈ xs, x.length ≤ 2) (hn : xs.length ≤ 1000) : (xs.map (·.length)).sum + xs.length * (Str.ofString "").length ≤ 16777216 := by
  have h1 : (xs.map (·.length)).sum ≤ 2 * (xs.map (·.length)).length := sum_le2 fun x hx => by
    obtain ⟨y, hy, rfl⟩ := List.mem_map.mp hx
    exact h y hy
  have h2 : (Str.ofString "").length = 0 := by decide
  rw [List.length_map] at h1
  rw [h2]; lia
theorem keysL_len {sp : Spaces} (hs : SpOk sp) (os : List Int) : (keysL sp os).length ≤ os.length := by
  unfold keysL; rw [List.length_map]; exact cutL_len hs _ _ (Nat.le_refl _)
theorem CallOk.get_txt {Γ : Cx} {al : Chars} {k : List Int} : CallOk Γ (.builtin "dict.get") [charsD al, dkey k, .str ""] (.str (textAt al k)) := by
  have := CallOk.get (Γ := Γ) (al := al.map fun x => (x.1, D.str x.2)) (k := k) (d := .str "") not_own_str
  rw [look_map] at this
  have e : ((look al k).map D.str).getD (.str "") = .str (textAt al k) := by unfold textAt; cases look al k <;> rfl
  rw [e] at this; exact this
theorem not_own_chars {al : Chars} : ∀ i, charsD al ≠ .own i := fun i q => by cases q

theorem b_text_of {Γ : Cx} (G : GE Γ) (hlv : 8 ≤ Γ.lv) (sp : Spaces) (al : Chars) (os : List Int) (hs : SpOk sp) (ha : ChOk al) (ho : os.length ≤ 1000) :
    Body Γ (fnAt 12) ["cmap", "octets"] [cmapD sp (charsD al), .bytes os] [] (fun r _ => r = .str (joinT ((keysL sp os).map (textAt al)))) := by
  intro L f cd
  have G' : GE (Γ.callee (fnAt 12) L f cd 0) := G
  have hkl := keysL_len hs os
  refine WX.cons (NoX.ok _) (WS.ret (WE.method mJoin (WE.const_str ⟨SelfOk.str, ?_⟩)))
  refine WE.comp (.of rfl rfl) (WE.def (i := 11) G' (by decide) k_split_codes c_split_codes (by show 1 ≤ Γ.lv - 1; lia) rfl ?_)
  refine WE.name (d := cmapD sp (charsD al)) (by rfl) (WE.name (d := .bytes os) (by rfl) ⟨rfl, ?_, _, b_split_codes (by exact G) (by show 6 ≤ Γ.lv - 1; lia) sp _ os hs ho not_own_chars, ?_⟩)
  · intro d hd
    simp only [List.mem_cons, List.not_mem_nil, or_false] at hd
    rcases hd with rfl | rfl
    · intro i q; cases q
    · exact not_own_bytes
  rintro r rfl
  refine ⟨_, fun i ds ow => ds = (((keysL sp os).take i).map fun k => D.str (textAt al k)) ∧ ow = [], ItOk.lst, len_map_le (by lia), ⟨by simp, rfl⟩, ?_, ?_⟩
  · intro cl C i e ds ow he ⟨hds, how⟩
    rw [List.getElem?_map] at he
    obtain ⟨k, hk, rfl⟩ := Option.map_eq_some_iff.mp he
    refine WAsg.name (.inl rfl) ⟨fun _ => ?_, fun q => by cases q⟩
    refine WE.method mGet ?_
    refine WE.attr (Γ := Cx.comp _ _ cl C) (ch := charsD al) (sp := .lst (sp.map spc)) G'.cmOk (by refine cl1 ?_ ?_ ?_ <;> rfl) (.inr ⟨rfl, rfl⟩) not_own_lst not_own_chars ⟨SelfOk.tdct, ?_⟩ (by decide) (by with_unfolding_all rfl)
    refine WE.name loc_same (WE.const_str (WCall.pure CallOk.get_txt.here ⟨not_own_str, ?_, how⟩))
    rw [take_map_snoc hk, hds]
  intro ds ow ⟨hds, how⟩
  rw [List.length_map, List.take_length] at hds
  subst hds
  have := CallOk.join (Γ := Γ.callee (fnAt 12) L f cd 0) (sep := "") (xs := (keysL sp os).map (textAt al)) (join_fits (fun x hx => by
    obtain ⟨k, _, rfl⟩ := List.mem_map.mp hx
    exact textAt_len ha k) (by rw [List.length_map]; lia))
  rw [List.map_map] at this
  exact WCall.pure this.here ⟨_, rfl, not_own_str, rfl⟩

/-- the key's octets -/
def kL (k : List Int) : Nat := (k.getD 0 0).toNat
def kO (k : List Int) : List Int := octs (kL k) (k.getD 1 0)
noncomputable def sureB (sp : Spaces) (k : List Int) : Bool := ((sp.any fun s => decide (fit (kO k) s = wide s)) || sp.isEmpty) && decide (nextLen sp (kO k) = kL k)

theorem b_is_found {Γ : Cx} (G : GE Γ) (hlv : 6 ≤ Γ.lv) (sp : Spaces) (ch : D) (k : List Int) (hs : SpOk sp) (hk : KeyOk k) (hch : ∀ i, ch ≠ .own i) :
    Body Γ (fnAt 13) ["cmap", "key"] [cmapD sp ch, dkey k] [] (fun r _ => r = .bool (sureB sp k)) := by
  obtain ⟨l, c, rfl, hl1, hl4, hc0, hcl⟩ := hk
  have hfew := hs.few
  have hol : (octs l c).length = l := octs_len l c
  intro L f cd
  have G' : GE (Γ.callee (fnAt 13) L f cd 0) := G
  have hkO : kO [(l : Int), c] = octs l c := rfl
  refine WX.cons (NoX.ok _) (WS.assign (callee_stor (.inr rfl)) (WE.def (i := 8) G' (by decide) k_code_octets c_code_octets (by show 1 ≤ Γ.lv - 1; lia) rfl ?_))
  refine WE.sub (WE.name (d := dkey [(l : Int), c]) (by rfl) (WE.const_int ⟨_, ItemOk.tup (d := .int l) (by decide) (by decide) rfl, WE.sub (WE.name (d := dkey [(l : Int), c]) (by rfl) (WE.const_int ⟨_, ItemOk.tup (d := .int c) (by decide) (by decide) rfl, rfl, ?_, _, b_code_octets (by exact G) l c (by lia) hc0, ?_⟩))⟩))
  · intro d hd
    simp only [List.mem_cons, List.not_mem_nil, or_false] at hd
    rcases hd with rfl | rfl <;> exact not_own_int
  rintro r rfl
  refine WX.cons (NoX.ok _) (WS.assignComp (.of rfl rfl) (callee_stor (.inl rfl)) (WE.attr G'.cmOk (by exact loc_ne rfl) (.inl ⟨rfl, rfl⟩) not_own_lst hch ?_ (by decide) (by with_unfolding_all rfl)))
  refine ⟨_, fun i ds ow => ds = ((sp.take i).filter fun s => decide (fit (octs l c) s = wide s)).map (fun s => spc s) ∧ ow = [], ItOk.lst, len_map_le (by lia), ⟨by simp, rfl⟩, ?_, ?_⟩
  · intro cl C i e ds ow he ⟨hds, how⟩
    rw [List.getElem?_map] at he
    obtain ⟨s, hsi, rfl⟩ := Option.map_eq_some_iff.mp he
    have hmem := List.mem_of_getElem? hsi
    have hn := hs.len s hmem
    refine WAsg.name (.inl rfl) ?_
    refine WT.cmp (WE.def (Γ := Cx.comp _ _ cl C) (i := 9) G (by decide) k_fitting c_fitting (by show 1 ≤ Γ.lv - 1; lia) rfl ?_)
    refine WE.name (d := spc s) loc_same (WE.name (d := .bytes (octs l c)) (by refine cl1 ?_ ?_ ?_ <;> first | exact loc_same | rfl) ⟨rfl, ?_, _, b_fitting (by exact G) (by show 1 ≤ Γ.lv - 1 - 1; lia) s.1.length (numB s.1) (numB s.2) _ (by lia) (numB_nonneg (hs.oct s hmem).1).1 (numB_nonneg (hs.oct s hmem).2).1 (by lia), ?_⟩)
    · intro d hd
      simp only [List.mem_cons, List.not_mem_nil, or_false] at hd
      rcases hd with rfl | rfl
      · exact not_own_tup
      · exact not_own_bytes
    rintro r rfl
    rw [fit_spc hs hmem]
    refine WE.sub (WE.name (d := spc s) loc_same (WE.const_int ⟨_, ItemOk.tup (d := .int s.1.length) (by decide) (by decide) rfl, ⟨_, CmpOk.eq_int.here, fun q => ⟨fun _ => ?_, (by intro q; cases q)⟩, fun q => ⟨(by intro q; cases q), fun _ => ?_⟩⟩⟩))
    · refine WE.name loc_same ⟨not_own_tup, ?_, how⟩
      have := Int.ofNat_inj.mp (of_decide_eq_true q)
      rw [take_filter_t hsi (decide_eq_true this), hds]
    · refine ⟨?_, how⟩
      have := of_decide_eq_false q
      rw [take_filter_f hsi (decide_eq_false fun z => this (congrArg _ z)), hds]
  intro ds ow ⟨hds, how⟩
  rw [List.length_map, List.take_length] at hds
  subst hds how
  have e1 : ((sp.filter fun s => decide (fit (octs l c) s = wide s)).map fun s => spc s) = ((sp.filter fun s => decide (fit (octs l c) s = wide s)).map spk).map dkey := by rw [List.map_map]; rfl
  have hany : decide (((sp.filter fun s => decide (fit (octs l c) s = wide s)).map spk) ≠ ([] : List (List Int))) = sp.any fun s => decide (fit (octs l c) s = wide s) := by
    by_cases h : ∃ s ∈ sp, fit (octs l c) s = wide s
    · obtain ⟨s, h1, h2⟩ := h
      rw [show (sp.any fun s => decide (fit (octs l c) s = wide s)) = true from List.any_eq_true.mpr ⟨s, h1, decide_eq_true h2⟩]
      refine decide_eq_true fun q => ?_
      rw [List.map_eq_nil_iff] at q
      have : s ∈ sp.filter fun s => decide (fit (octs l c) s = wide s) := List.mem_filter.mpr ⟨h1, decide_eq_true h2⟩
      rw [q] at this; exact nomatch this
    · rw [show (sp.any fun s => decide (fit (octs l c) s = wide s)) = false from List.any_eq_false.mpr fun s h1 h2 => h ⟨s, h1, of_decide_eq_true h2⟩]
      refine decide_eq_false fun q => q ?_
      rw [List.map_eq_nil_iff, List.filter_eq_nil_iff]
      exact fun s h1 h2 => h ⟨s, h1, of_decide_eq_true h2⟩
  refine WX.cons (NoX.ok _) (WS.ret (WE.and2 (WE.or2 (WE.cmp (WE.name loc_same (WE.list ⟨by simp, Nat.zero_le _, ?_⟩))))))
  rw [e1]
  refine ⟨_, (CmpOk.ne_keys (b := [])).here, ?_⟩
  rw [hany]
  have hsure : ∀ b : Bool, b = ((sp.any fun s => decide (fit (octs l c) s = wide s)) || sp.isEmpty) → sureB sp [(l : Int), c] = (b && decide (nextLen sp (octs l c) = l)) := fun b hb => by
    subst hb
    unfold sureB
    rw [hkO]; rfl
  refine ⟨_, TruthOk.bool, fun q => ?_, fun q => ?_⟩
  · refine ⟨_, TruthOk.bool, fun q' => ?_, fun q' => ?_⟩
    · rw [q] at q'; cases q'
    · refine WE.cmp (WE.def (i := 10) G' (by decide) k_next_length c_next_length (by show 1 ≤ Γ.lv - 1; lia) rfl (WE.attr G'.cmOk (by exact loc_ne (loc_mk (loc_ne rfl))) (.inl ⟨rfl, rfl⟩) not_own_lst hch ?_ (by decide) (by with_unfolding_all rfl)))
      refine WE.name (d := .bytes (octs l c)) (by exact loc_ne (loc_mk loc_same)) ⟨rfl, ?_, _, b_next_length (by exact G) (by show 4 ≤ Γ.lv - 1; lia) sp _ hs (by lia), ?_⟩
      · intro d hd
        simp only [List.mem_cons, List.not_mem_nil, or_false] at hd
        rcases hd with rfl | rfl
        · exact not_own_lst
        · exact not_own_bytes
      rintro r rfl
      refine WE.sub (WE.name (d := dkey [(l : Int), c]) (by exact loc_ne (loc_mk (loc_ne rfl))) (WE.const_int ⟨_, ItemOk.tup (d := .int l) (by decide) (by decide) rfl, ⟨_, CmpOk.eq_int.here, _, rfl, (by intro i z; cases z), ?_⟩⟩))
      rw [hsure true (by rw [q]; rfl), Bool.true_and]
      congr 1
      rw [decide_eq_decide]
      exact Int.ofNat_inj
  · refine WE.not (WE.attr G'.cmOk (by exact loc_ne (loc_mk (loc_ne rfl))) (.inl ⟨rfl, rfl⟩) not_own_lst hch ⟨_, TruthOk.lst (len_map_le (by lia)), ?_⟩ (by decide) (by with_unfolding_all rfl))
    have he : (!(!(sp.map spc).isEmpty)) = sp.isEmpty := by cases sp <;> rfl
    dsimp only [QNB]
    rw [he]
    refine ⟨_, TruthOk.bool, fun q' => ?_, fun q' => ?_⟩
    · refine ⟨_, rfl, (by intro i z; cases z), ?_⟩
      rw [hsure false (by rw [q, q']; rfl), q']; rfl
    · refine WE.cmp (WE.def (i := 10) G' (by decide) k_next_length c_next_length (by show 1 ≤ Γ.lv - 1; lia) rfl (WE.attr G'.cmOk (by exact loc_ne (loc_mk (loc_ne rfl))) (.inl ⟨rfl, rfl⟩) not_own_lst hch ?_ (by decide) (by with_unfolding_all rfl)))
      refine WE.name (d := .bytes (octs l c)) (by exact loc_ne (loc_mk loc_same)) ⟨rfl, ?_, _, b_next_length (by exact G) (by show 4 ≤ Γ.lv - 1; lia) sp _ hs (by lia), ?_⟩
      · intro d hd
        simp only [List.mem_cons, List.not_mem_nil, or_false] at hd
        rcases hd with rfl | rfl
        · exact not_own_lst
        · exact not_own_bytes
      rintro r rfl
      refine WE.sub (WE.name (d := dkey [(l : Int), c]) (by exact loc_ne (loc_mk (loc_ne rfl))) (WE.const_int ⟨_, ItemOk.tup (d := .int l) (by decide) (by decide) rfl, ⟨_, CmpOk.eq_int.here, _, rfl, (by intro i z; cases z), ?_⟩⟩))
      rw [hsure true (by rw [q, q']; rfl), Bool.true_and]
      congr 1
      rw [decide_eq_decide]
      exact Int.ofNat_inj
end Mine

namespace Mine

theorem div_octet {c : Int} {k : Nat} : (c.fdiv (256 ^ k)).fmod 256 = c / 256 ^ k % 256 := by
  rw [Int.fdiv_eq_ediv_of_nonneg _ (Int.le_of_lt (Int.pow_pos (by decide))), Int.fmod_eq_emod_of_nonneg _ (by decide)]
theorem pow_ne (k : Nat) : (256 : Int) ^ k ≠ 0 := Int.ne_of_gt (Int.pow_pos (by decide))
theorem pow_pylong {c : Int} {k : Nat} (h : k ≤ 3) : Builtin.divisionGoesByPylong c (256 ^ k) = false := PyProof.noPylong_small (by have := pow_small k h; lia)

/-- the octets of a key, as the law makes them -/
theorem b_law_is_sure {Γ : Cx} (G : GE Γ) (hlv : 4 ≤ Γ.lv) (sp : Spaces) (k : List Int) (hs : SpOk sp) (hk : KeyOk k) :
    Body Γ (fnAt 25) ["spaces", "key"] [.lst (sp.map spl), dkey k] [] (fun r _ => r = .bool (sureB sp k)) := by
  obtain ⟨l, c, rfl, hl1, hl4, hc0, hcl⟩ := hk
  have hfew := hs.few
  have hol : (octs l c).length = l := octs_len l c
  have hkO : kO [(l : Int), c] = octs l c := rfl
  have hkL : kL [(l : Int), c] = l := rfl
  intro L f cd
  have G' : GE (Γ.callee (fnAt 25) L f cd 0) := G
  refine WX.cons (NoX.ok _) (WS.assign (callee_stor (.inr rfl)) (WE.comp (.of rfl rfl) (WE.ty (x := "range") G' (by simp) rfl (WE.sub (WE.name (d := dkey [(l : Int), c]) (by rfl) (WE.const_int ⟨_, ItemOk.tup (d := .int l) (by decide) (by decide) rfl, ⟨_, CallOk.range1.here, ?_⟩⟩))))))
  refine ⟨_, fun i ds ow => ds = ((octs l c).take i).map D.int ∧ ow = [], ItOk.rng (n := l) (small_nat (by lia)) (rangeSize_nat l), by simp [rangeInts, sizeLine_eq]; lia, ⟨by simp, rfl⟩, ?_, ?_⟩
  · intro cl C i e ds ow he ⟨hds, how⟩
    have hi : i < l := by have := (List.getElem?_eq_some_iff.mp he).1; simpa [rangeInts] using this
    rw [List.getElem?_map, rangeInts_get hi] at he
    cases he
    have hkk : ((l : Int) - 1 - (0 + (i : Int) * 1)).toNat = l - 1 - i := by lia
    refine WAsg.name (.inl rfl) ⟨fun _ => ?_, fun q => by cases q⟩
    refine WE.binop (WE.binop (WE.sub (WE.name (d := dkey [(l : Int), c]) (by refine cl1 ?_ ?_ ?_ <;> rfl) (WE.const_int ⟨_, ItemOk.tup (d := .int c) (by decide) (by decide) rfl, ?_⟩))))
    refine WE.binop (WE.const_int (WE.binop (WE.binop (WE.sub (WE.name (d := dkey [(l : Int), c]) (by refine cl1 ?_ ?_ ?_ <;> rfl) (WE.const_int ⟨_, ItemOk.tup (d := .int l) (by decide) (by decide) rfl, WE.const_int ⟨_, BinOk.sub_int, WE.name loc_same ⟨_, BinOk.sub_int, ?_⟩⟩⟩))))))
    refine ⟨_, BinOk.pow_int (by lia) (by lia) (by decide), ?_⟩
    rw [hkk]
    refine ⟨_, BinOk.fdiv_int (pow_ne _) (pow_pylong (by lia)), WE.const_int ⟨_, BinOk.mod_int (by decide), not_own_int, ?_, how⟩⟩
    rw [take_snoc (octs_get hi), hds, List.map_append, div_octet]; rfl
  intro ds ow ⟨hds, how⟩
  have hrl : (rangeInts 0 1 l).length = l := by simp [rangeInts]
  rw [List.length_map, hrl] at hds
  rw [List.take_of_length_le (by lia)] at hds
  subst hds how
  refine WX.cons (NoX.ok _) (WS.if_ (NoX.ok _) (WT.not (WT.value (WE.name (d := .lst (sp.map spl)) (by exact loc_ne (loc_mk rfl)) ⟨_, TruthOk.lst (len_map_le (by lia)), fun q => ?_, fun q => ?_⟩) (by intro _; rfl))))
  · have hnil : sp = [] := by cases sp with
      | nil => rfl
      | cons _ _ => simp at q
    subst hnil
    refine WX.cons (NoX.ok _) (WS.ret (WE.cmp (WE.sub (WE.name (d := dkey [(l : Int), c]) (by exact loc_ne (loc_mk rfl)) (WE.const_int ⟨_, ItemOk.tup (d := .int l) (by decide) (by decide) rfl, WE.const_int ⟨_, CmpOk.eq_int.here, _, rfl, (by intro i z; cases z), ?_⟩⟩)))))
    unfold sureB
    rw [nextLen_of (n := 1) (.inl ⟨rfl, rfl⟩), hkL]
    show D.bool _ = D.bool (decide (1 = l))
    congr 1
    rw [decide_eq_decide]; lia
  have hne : sp ≠ [] := by rintro rfl; simp at q
  refine WX.nil ?_
  refine WX.cons (NoX.ok _) (WS.assignComp (.of rfl rfl) (callee_stor (.inl rfl)) (WE.name (d := .lst (sp.map spl)) (by exact loc_ne (loc_mk rfl)) ?_))
  refine ⟨_, fun i ds ow => ds = ((sp.take i).filter fun s => decide (fit (octs l c) s = wide s)).map (fun s => D.int (wide s)) ∧ ow = [], ItOk.lst, len_map_le (by lia), ⟨by simp, rfl⟩, ?_, ?_⟩
  · intro cl C i e ds ow he ⟨hds, how⟩
    rw [List.getElem?_map] at he
    obtain ⟨s, hsi, rfl⟩ := Option.map_eq_some_iff.mp he
    have hmem := List.mem_of_getElem? hsi
    have hn := hs.len s hmem
    refine WAsg.name (.inl rfl) ?_
    refine WT.cmp (WE.def (Γ := Cx.comp _ _ cl C) (i := 21) G (by decide) k_law_fits c_law_fits (by show 1 ≤ Γ.lv - 1; lia) rfl ?_)
    refine WE.name (d := spl s) loc_same (WE.name (d := intsD (octs l c)) (by refine cl1 ?_ ?_ ?_ <;> first | exact loc_same | rfl) ⟨rfl, ?_, _, b_law_fits (by exact G) s.1 s.2 (octs l c), ?_⟩)
    · intro d hd
      simp only [List.mem_cons, List.not_mem_nil, or_false] at hd
      rcases hd with rfl | rfl
      · exact not_own_tup
      · exact not_own_lst
    rintro r rfl
    refine WE.bu (Γ := Cx.comp _ _ cl C) (x := "len") G (by simp) rfl (WE.sub (WE.name (d := spl s) loc_same (WE.const_int ⟨_, ItemOk.tup (by decide) (by decide) rfl, ⟨_, (CallOk.len_lst (len_map_le (by lia))).here, ?_⟩⟩)))
    rw [List.length_map]
    refine ⟨_, CmpOk.eq_int.here, fun q => ⟨fun _ => ?_, (by intro q; cases q)⟩, fun q => ⟨(by intro q; cases q), fun _ => ?_⟩⟩
    · refine WE.bu (Γ := Cx.comp _ _ cl C) (x := "len") G (by simp) rfl (WE.sub (WE.name (d := spl s) loc_same (WE.const_int ⟨_, ItemOk.tup (by decide) (by decide) rfl, ⟨_, (CallOk.len_lst (len_map_le (by lia))).here, not_own_int, ?_, how⟩⟩)))
      have := Int.ofNat_inj.mp (of_decide_eq_true q)
      rw [take_filter_t hsi (decide_eq_true this), hds, List.length_map]
    · refine ⟨?_, how⟩
      have := of_decide_eq_false q
      rw [take_filter_f hsi (decide_eq_false fun z => this (congrArg _ z)), hds]
  intro ds ow ⟨hds, how⟩
  rw [List.length_map, List.take_length] at hds
  subst hds how
  have e1 : ((sp.filter fun s => decide (fit (octs l c) s = wide s)).map fun s => D.int (wide s)) = ((sp.filter fun s => decide (fit (octs l c) s = wide s)).map fun s => ((wide s : Nat) : Int)).map D.int := by rw [List.map_map]; rfl
  rw [e1]
  refine WX.cons (NoX.ok _) (WS.ret (WE.and2 (WE.cmp (WE.name loc_same (WE.list ⟨by simp, Nat.zero_le _, ⟨_, (CmpOk.ne_ints (b := [])).here, ?_⟩⟩)))))
  have hemp : sp.isEmpty = false := by cases sp with
    | nil => exact absurd rfl hne
    | cons _ _ => rfl
  refine ⟨_, TruthOk.bool, fun q => ?_, fun q => ?_⟩
  · refine ⟨_, rfl, (by intro i z; cases z), ?_⟩
    have q := of_decide_eq_false q
    have hnil := Decidable.not_not.mp q
    rw [List.map_eq_nil_iff, List.filter_eq_nil_iff] at hnil
    have hany : (sp.any fun s => decide (fit (octs l c) s = wide s)) = false := List.any_eq_false.mpr hnil
    unfold sureB
    rw [hkO, hany, hemp, decide_eq_false q]; rfl
  · have q := of_decide_eq_true q
    obtain ⟨m, hm, hmin⟩ := exists_min q
    obtain ⟨s, hs1, rfl⟩ := List.mem_map.mp hm
    obtain ⟨hs1, hs2⟩ := List.mem_filter.mp hs1
    have hs2' := of_decide_eq_true hs2
    have hnext : nextLen sp (octs l c) = wide s := nextLen_of (.inr (.inl ⟨s, hs1, hs2', rfl, fun s' h1 h2 => by
      have := hmin ((wide s' : Nat) : Int) (List.mem_map.mpr ⟨s', List.mem_filter.mpr ⟨h1, decide_eq_true h2⟩, rfl⟩)
      lia⟩))
    have hany : (sp.any fun s => decide (fit (octs l c) s = wide s)) = true := List.any_eq_true.mpr ⟨s, hs1, hs2⟩
    refine WE.cmp (WE.bu (x := "min") G' (by simp) rfl (WE.name loc_same ⟨_, (CallOk.min_lst hm hmin).here, ?_⟩))
    refine WE.sub (WE.name (d := dkey [(l : Int), c]) (by exact loc_ne (loc_mk (loc_ne (loc_mk rfl)))) (WE.const_int ⟨_, ItemOk.tup (d := .int l) (by decide) (by decide) rfl, ⟨_, CmpOk.eq_int.here, _, rfl, (by intro i z; cases z), ?_⟩⟩))
    unfold sureB
    rw [hkO, hany, hkL, hnext]
    show D.bool _ = D.bool (decide (wide s = l))
    congr 1
    rw [decide_eq_decide]
    exact Int.ofNat_inj
end Mine

namespace Mine

abbrev Sures := List (Str × List Int)
abbrev sureD (acc : Sures) : List (Str × D) := acc.map fun x => (x.1, dkey x.2)
theorem look_sureD {acc : Sures} {t : Str} : look (sureD acc) t = (look acc t).map dkey := by
  unfold look
  rw [List.find?_map, Option.map_map, Option.map_map]; rfl
noncomputable def sureStep (sp : Spaces) (al : Chars) (acc : Sures) (k : List Int) : Sures :=
  if textAt al k ≠ "" ∧ look acc (textAt al k) = none ∧ sureB sp k = true then acc ++ [(textAt al k, k)] else acc
noncomputable def sureL (sp : Spaces) (al : Chars) : Sures := (srt (al.map (·.1))).foldl (sureStep sp al) []
theorem sureStep_len (sp : Spaces) (al : Chars) (acc : Sures) (k : List Int) : (sureStep sp al acc k).length ≤ acc.length + 1 := by
  unfold sureStep
  split
  · simp
  · lia
theorem fold_take {α β : Type} {f : β → α → β} {xs : List α} {i : Nat} {x : α} {b : β} (h : xs[i]? = some x) : (xs.take (i + 1)).foldl f b = f ((xs.take i).foldl f b) x := by
  rw [take_snoc h, List.foldl_append]; rfl
theorem sure_len (sp : Spaces) (al : Chars) : ∀ (ks : List (List Int)) (acc : Sures), (ks.foldl (sureStep sp al) acc).length ≤ acc.length + ks.length
  | [], acc => by simp
  | k :: ks, acc => by
    have h1 := sure_len sp al ks (sureStep sp al acc k)
    have h2 := sureStep_len sp al acc k
    simp only [List.foldl_cons, List.length_cons]; lia
theorem text_look {al : Chars} {k : List Int} (h : k ∈ al.map (·.1)) : look (al.map fun x => (x.1, D.str x.2)) k = some (.str (textAt al k)) := by
  rw [look_map]
  have := look_isSome.mpr h
  unfold textAt
  cases q : look al k with
  | none => rw [q] at this; cases this
  | some x => rfl
theorem keys_ne {al : Chars} (ha : ChOk al) : ∀ x ∈ (al.map fun x => (x.1, D.str x.2)), x.1 ≠ [] := fun x hx => by
  obtain ⟨y, hy, rfl⟩ := List.mem_map.mp hx
  obtain ⟨l, c, e, _⟩ := ha.keys y hy
  intro q
  have q : y.1 = [] := q
  rw [e] at q; cases q
theorem keyOk_of {al : Chars} (ha : ChOk al) {k : List Int} (h : k ∈ al.map (·.1)) : KeyOk k := by
  obtain ⟨y, hy, rfl⟩ := List.mem_map.mp h
  exact ha.keys y hy
theorem CallOk.sorted_chars {Γ : Cx} {al : Chars} (ha : ChOk al) : CallOk Γ (.builtin "sorted") [charsD al] (.lst ((srt (al.map (·.1))).map dkey)) := by
  have := CallOk.sorted (Γ := Γ) (al := al.map fun x => (x.1, D.str x.2)) (by rw [List.length_map]; have := ha.few; lia) (keys_ne ha)
  rw [List.map_map] at this
  exact this

theorem b_codes_by_text {Γ : Cx} (G : GE Γ) (hlv : 8 ≤ Γ.lv) (sp : Spaces) (al : Chars) (hs : SpOk sp) (ha : ChOk al) :
    Body Γ (fnAt 14) ["cmap"] [cmapD sp (charsD al)] [] (fun r _ => r = dsd (sureD (sureL sp al))) := by
  have hfew := ha.few
  intro L f cd
  have G' : GE (Γ.callee (fnAt 14) L f cd 0) := G
  refine WX.cons (NoX.ok _) (WS.assign (.inl rfl) (WE.dictS ?_))
  refine WX.cons (NoX.ok _) (WS.for_ (WE.bu (x := "sorted") G' (by simp) rfl (WE.attr G'.cmOk (sp := .lst (sp.map spc)) (ch := charsD al) (by exact loc_ne rfl) (.inr ⟨rfl, rfl⟩) not_own_lst not_own_chars ⟨_, (CallOk.sorted_chars ha).here, ?_⟩ (by decide) (by with_unfolding_all rfl))))
  refine ⟨_, fun i σ => σ.own = [osd (sureD (((srt (al.map (·.1))).take i).foldl (sureStep sp al) []))] ∧ σ.loc "keys" = some (.own 0) ∧ σ.loc "cmap" = some (cmapD sp (charsD al)), ItOk.lst, ⟨rfl, by rfl, by rfl⟩, ?_, ?_⟩
  · rintro i e σ he ⟨e1, e2, e3⟩
    rw [List.getElem?_map] at he
    obtain ⟨k, hk, rfl⟩ := Option.map_eq_some_iff.mp he
    have hmem : k ∈ al.map (·.1) := srt_mem (List.mem_of_getElem? hk)
    have hil : i < al.length := by have := (List.getElem?_eq_some_iff.mp hk).1; rw [srt_len, List.length_map] at this; exact this
    have hstep := fold_take (f := sureStep sp al) (b := ([] : Sures)) hk
    have hlen := sure_len sp al ((srt (al.map (·.1))).take i) []
    generalize ((srt (al.map (·.1))).take i).foldl (sureStep sp al) [] = acc at e1 hstep hlen
    refine WAsg.name (.inl rfl) ?_
    refine WX.cons (NoX.ok _) (WS.assign (.inl rfl) (WE.sub (WE.attr G'.cmOk (sp := .lst (sp.map spc)) (ch := charsD al) (by exact loc_ne e3) (.inr ⟨rfl, rfl⟩) not_own_lst not_own_chars (WE.name loc_same ⟨_, ItemOk.tdct (text_look hmem), ?_⟩) (by decide) (by with_unfolding_all rfl))))
    have nope : ¬ (textAt al k ≠ "" ∧ look acc (textAt al k) = none ∧ sureB sp k = true) → ∀ σ' : St, σ'.own = σ.own → σ'.loc "keys" = σ.loc "keys" → σ'.loc "cmap" = σ.loc "cmap" → σ'.own = [osd (sureD (((srt (al.map (·.1))).take (i + 1)).foldl (sureStep sp al) []))] ∧ σ'.loc "keys" = some (.own 0) ∧ σ'.loc "cmap" = some (cmapD sp (charsD al)) := fun hn σ' h1 h2 h3 => by
      rw [h1, h2, h3, hstep]
      unfold sureStep
      rw [if_neg hn]
      exact ⟨e1, e2, e3⟩
    refine WX.cons (NoX.ok _) (WS.if_ (NoX.ok _) (WT.and_cons (WT.cmp (WE.name loc_same (WE.const_str ⟨_, CmpOk.ne_str.here, fun c1 => ?_, fun c1 => ?_⟩)))))
    · have c1 := of_decide_eq_true c1
      refine WT.and_cons (WT.cmp (WE.name loc_same (WE.name (by exact loc_ne (loc_ne e2)) ⟨_, CmpOkS.notin_own (al := sureD acc) (by show σ.own[0]? = _; rw [e1]; rfl), fun c2 => ?_, fun c2 => ?_⟩)))
      · have c2 : look acc (textAt al k) = none := by
          rw [look_sureD] at c2
          cases q : look acc (textAt al k) with
          | none => rfl
          | some x => rw [q] at c2; simp at c2
        refine WT.and_cons (WT.value (WE.def (i := 13) G' (by decide) k_is_found c_is_found (by show 1 ≤ Γ.lv - 1; lia) rfl (WE.name (by exact loc_ne (loc_ne e3)) (WE.name (d := dkey k) (by exact loc_ne loc_same) ⟨rfl, ?_, _, b_is_found (by exact G) (by show 6 ≤ Γ.lv - 1; lia) sp _ k hs (keyOk_of ha hmem) not_own_chars, ?_⟩))) (by intro _; rfl))
        · intro d hd
          simp only [List.mem_cons, List.not_mem_nil, or_false] at hd
          rcases hd with rfl | rfl
          · intro i q; cases q
          · exact not_own_tup
        rintro r rfl
        refine ⟨_, TruthOk.bool, fun c3 => ?_, fun c3 => ?_⟩
        · refine WT.and_nil ⟨fun _ => ?_, (by intro q; cases q)⟩
          refine WX.cons (NoX.ok _) (WS.setItem (WE.name (d := dkey k) (by exact loc_ne loc_same) (WE.name (by exact loc_ne (loc_ne e2)) (WE.name loc_same (SetOk.sdct (al := sureD acc) (by show σ.own[0]? = _; rw [e1]; rfl) not_own_tup (by rw [List.length_map, sizeLine_eq]; rw [List.length_take] at hlen; simp at hlen; lia) (WX.nil (WX.nil ⟨?_, ?_, ?_⟩)))))))
          · show σ.own.set 0 _ = _
            rw [e1, hstep]
            unfold sureStep
            rw [if_pos ⟨c1, c2, c3⟩]
            have : put (sureD acc) (textAt al k) (dkey k) = sureD (acc ++ [(textAt al k, k)]) := by
              unfold put
              rw [look_sureD, c2]
              simp [sureD]
            rw [this]; rfl
          · exact loc_mk (loc_ne (loc_ne e2))
          · exact loc_mk (loc_ne (loc_ne e3))
        · exact ⟨(by intro q; cases q), fun _ => WX.nil (WX.nil (nope (fun q => by rw [q.2.2] at c3; cases c3) _ rfl rfl rfl))⟩
      · refine ⟨(by intro q; cases q), fun _ => WX.nil (WX.nil (nope (fun q => ?_) _ rfl rfl rfl))⟩
        rw [look_sureD, q.2.1] at c2; cases c2
    · exact ⟨(by intro q; cases q), fun _ => WX.nil (WX.nil (nope (fun q => of_decide_eq_false c1 q.1) _ rfl rfl rfl))⟩
  · rintro σ ⟨e1, e2, e3⟩
    rw [List.length_map, List.take_length] at e1
    refine WX.freeze 0 (osd (sureD (sureL sp al))) (NoX.ok _) (by rw [e1]; rfl) nofun (Nat.le_refl _) ?_
    exact WX.cons (NoX.ok _) (WS.ret (WE.name (fz_own e2) ⟨_, rfl, (by intro i q; cases q), rfl⟩))
end Mine

namespace Mine

abbrev penO (ns : List Int) (p q : Int) : OO := .lst [intsD ns, .int p, .int q]
def Drawn (ns : List Int) (m p : Int) (r : D) (o : OO) : Prop := ∃ d p' q' : Int, r = .int d ∧ 0 ≤ d ∧ d < m ∧ o = penO ns p' q' ∧ 0 ≤ p' ∧ p' ≤ p + 1 ∧ 0 ≤ q'
theorem fmod_range {a m : Int} (hm : 1 ≤ m) : 0 ≤ a.fmod m ∧ a.fmod m < m := by
  rw [Int.fmod_eq_emod_of_nonneg _ (by lia)]
  exact ⟨Int.emod_nonneg _ (by lia), Int.emod_lt_of_pos _ (by lia)⟩
theorem fdiv_nonneg {a m : Int} (ha : 0 ≤ a) (hm : 1 ≤ m) : 0 ≤ a.fdiv m := by
  rw [Int.fdiv_eq_ediv_of_nonneg _ (by lia)]
  exact Int.ediv_nonneg ha (by lia)
theorem pylong_small {a m : Int} (h0 : 0 ≤ m) (h : m < 1073741824) : Builtin.divisionGoesByPylong a m = false := PyProof.noPylong_small (by lia)
theorem lt23 : (2 : Nat) < 3 := by decide
theorem lt13 : (1 : Nat) < 3 := by decide
theorem mul_bound {a b A B : Int} (ha : 0 ≤ a) (hb : 0 ≤ b) (h1 : a ≤ A) (h2 : b ≤ B) : 0 ≤ a * b ∧ a * b ≤ A * B := ⟨Int.mul_nonneg ha hb, Int.mul_le_mul h1 h2 hb (by lia)⟩

theorem b_law_draw {Γ : Cx} (G : GE Γ) (ns : List Int) (p q m : Int) (hns : ns.length ≤ 64) (hp0 : 0 ≤ p) (hp : p ≤ 1000000) (hq : 0 ≤ q) (hm1 : 1 ≤ m) (hm : m ≤ 65536) :
    Body Γ (fnAt 18) ["pen", "many"] [.own 0, .int m] [penO ns p q] (fun r ow => ∀ o', ow[0]? = some o' → Drawn ns m p r o') := by
  intro L f cd
  have G' : GE (Γ.callee (fnAt 18) L f cd 1) := G
  refine WX.cons (NoX.ok _) (WS.if_ (NoX.ok _) (WT.cmp (WE.sub (WE.name (d := .own 0) (by rfl) (WE.const_int ⟨_, ItemOk.own (ds := [intsD ns, .int p, .int q]) rfl (by decide) (by decide) rfl, WE.const_int ⟨_, CmpOk.gt_int.here, fun c => ?_, fun c => ?_⟩⟩)))))
  · refine WX.cons (NoX.ok _) (WS.assign (.inl rfl) (WE.binop (WE.sub (WE.name (d := .own 0) (by rfl) (WE.const_int ⟨_, ItemOk.own (ds := [intsD ns, .int p, .int q]) rfl (by decide) (by decide) rfl, WE.name (d := .int m) (by rfl) ⟨_, BinOk.mod_int (by lia), ?_⟩⟩)))))
    refine WX.cons (NoX.ok _) (WS.setItem (WE.binop (WE.sub (WE.name (d := .own 0) (by rfl) (WE.const_int ⟨_, ItemOk.own (ds := [intsD ns, .int p, .int q]) rfl (by decide) (by decide) rfl, WE.name (d := .int m) (by rfl) ⟨_, BinOk.fdiv_int (by lia) (pylong_small (by lia) (by lia)), WE.name (d := .own 0) (by rfl) (WE.const_int (SetOk.lst (ds := [intsD ns, .int p, .int q]) rfl (by decide) (by decide) lt23 not_own_int ?_))⟩⟩)))))
    refine WX.cons (NoX.ok _) (WS.ret (WE.name (d := .int (q.fmod m)) (by rfl) ⟨_, rfl, not_own_int, fun o' ho => ?_⟩))
    have ho : o' = penO ns p (q.fdiv m) := by simpa [St.set] using ho.symm
    have := fmod_range (a := q) hm1
    exact ⟨_, p, _, rfl, this.1, this.2, ho, hp0, by lia, fdiv_nonneg hq hm1⟩
  refine WX.nil ?_
  have c := of_decide_eq_false c
  refine WX.cons (NoX.ok _) (WS.assign (.inl rfl) (WE.sub (WE.name (d := .own 0) (by rfl) (WE.const_int ⟨_, ItemOk.own (ds := [intsD ns, .int p, .int q]) rfl (by decide) (by decide) rfl, ?_⟩))))
  refine WX.cons (NoX.ok _) (WS.setItem (WE.binop (WE.name (d := .int p) (by rfl) (WE.const_int ⟨_, BinOk.add_int, WE.name (d := .own 0) (by rfl) (WE.const_int (SetOk.lst (ds := [intsD ns, .int p, .int q]) rfl (by decide) (by decide) lt13 not_own_int ?_))⟩))))
  have hown : ([penO ns p q] : List OO).set 0 (.lst ([intsD ns, .int p, .int q].set (1 : Int).toNat (.int (p + 1)))) = [penO ns (p + 1) q] := rfl
  refine WX.cons (NoX.ok _) (WS.assign (.inl rfl) (WE.mono (Q := fun d σ' => (∃ x, d = .int x) ∧ σ' = ⟨(St.set ⟨ploc ["pen", "many"] [.own 0, .int m], [penO ns p q]⟩ "place" (.int p)).loc, [penO ns (p + 1) q]⟩) (WE.ifexp ?_) ?_))
  · refine WT.value (WE.sub (WE.name (d := .own 0) (by rfl) (WE.const_int ⟨_, ItemOk.own (ds := [intsD ns, .int (p + 1), .int q]) rfl (by decide) (by decide) rfl, ⟨_, TruthOk.lst (len_map_le (by lia)), fun c => ?_, fun c => ?_⟩⟩))) (by intro _; rfl)
    · have hne : 0 < ns.length := by
        cases ns with
        | nil => simp at c
        | cons _ _ => simp
      have hr := fmod_range (a := p) (m := (ns.length : Int)) (by lia)
      refine WE.sub (WE.sub (WE.name (d := .own 0) (by rfl) (WE.const_int ⟨_, ItemOk.own (ds := [intsD ns, .int (p + 1), .int q]) rfl (by decide) (by decide) rfl, ?_⟩)))
      refine WE.binop (WE.name (d := .int p) (by rfl) (WE.bu (x := "len") G' (by simp) rfl (WE.sub (WE.name (d := .own 0) (by rfl) (WE.const_int ⟨_, ItemOk.own (ds := [intsD ns, .int (p + 1), .int q]) rfl (by decide) (by decide) rfl, ⟨_, (CallOk.len_lst (len_map_le (by lia))).here, ?_⟩⟩)))))
      rw [List.length_map]
      have hget : (ns.map D.int)[(p.fmod (ns.length : Int)).toNat]? = some (.int (ns.getD (p.fmod (ns.length : Int)).toNat 0)) := by
        rw [List.getElem?_map, getD_some (by lia)]; rfl
      exact ⟨_, BinOk.mod_int (by lia), _, ItemOk.lst hr.1 (by lia) hget, ⟨_, rfl⟩, rfl⟩
    · exact WE.const_int ⟨⟨_, rfl⟩, rfl⟩
  rintro d σ' ⟨⟨x, rfl⟩, rfl⟩
  refine WX.cons (NoX.ok _) (WS.if_ (NoX.ok _) (WT.and_cons (WT.cmp (WE.name (d := .int p) (by rfl) (WE.bu (x := "len") G' (by simp) rfl ?_)))))
  refine WE.sub (WE.name (d := .own 0) (by rfl) (WE.const_int ⟨_, ItemOk.own (ds := [intsD ns, .int (p + 1), .int q]) rfl (by decide) (by decide) rfl, ?_⟩))
  refine ⟨_, (CallOk.len_lst (len_map_le (by lia))).here, ⟨_, CmpOk.lt_int.here, fun c1 => ?_, fun c1 => ?_⟩⟩
  · refine WT.and_cons (WT.cmp (WE.bu (x := "abs") G' (by simp) rfl (WE.name (d := .int x) (by rfl) ?_)))
    refine ⟨_, CallOk.abs.here, WE.binop (WE.const_int (WE.const_int ⟨_, BinOk.pow_int (by decide) (by decide) (by decide), ⟨_, CmpOk.ge_int.here, fun c2 => ?_, fun c2 => ?_⟩⟩))⟩
    · have c2 := of_decide_eq_true c2
      have hg : (0 : Int) ≤ (x.natAbs : Int) - 10 ^ (18 : Int).toNat := by lia
      refine WT.and_nil ⟨fun _ => ?_, (by intro q; cases q)⟩
      refine WX.cons (NoX.ok _) (WS.assign (.inl rfl) (WE.binop (WE.bu (x := "abs") G' (by simp) rfl (WE.name (d := .int x) (by rfl) ?_))))
      refine ⟨_, CallOk.abs.here, WE.binop (WE.const_int (WE.const_int ⟨_, BinOk.pow_int (by decide) (by decide) (by decide), ⟨_, BinOk.sub_int, ?_⟩⟩))⟩
      generalize (x.natAbs : Int) - 10 ^ (18 : Int).toNat = gr at hg
      refine WX.cons (NoX.ok _) (WS.setItem (WE.binop (WE.name (d := .int gr) (by rfl) (WE.name (d := .int m) (by rfl) ⟨_, BinOk.fdiv_int (by lia) (pylong_small (by lia) (by lia)), ?_⟩))))
      refine WE.name (d := .own 0) (by rfl) (WE.const_int (SetOk.lst (ds := [intsD ns, .int (p + 1), .int q]) rfl (by decide) (by decide) lt23 not_own_int ?_))
      refine WX.cons (NoX.ok _) (WS.ret (WE.binop (WE.name (d := .int gr) (by rfl) (WE.name (d := .int m) (by rfl) ⟨_, BinOk.mod_int (by lia), _, rfl, not_own_int, fun o' ho => ?_⟩))))
      have ho : o' = penO ns (p + 1) (gr.fdiv m) := by simpa [St.set] using ho.symm
      have := fmod_range (a := gr) hm1
      exact ⟨_, p + 1, _, rfl, this.1, this.2, ho, by lia, by lia, fdiv_nonneg hg hm1⟩
    · refine ⟨(by intro q; cases q), fun _ => WX.nil ?_⟩
      have hx := fmod_range (a := x) (m := 2147483629) (by decide)
      refine WX.cons (NoX.ok _) (WS.assign (.inl rfl) ?_)
      refine WE.binop (WE.binop (WE.binop (WE.binop (WE.binop ?_))))
      refine WE.name (d := .int x) (by rfl) (WE.const_int ⟨_, BinOk.mod_int (by decide), ?_⟩)
      refine WE.binop (WE.const_int (WE.name (d := .int p) (by rfl) ⟨_, BinOk.mul_int (.of_left (by decide)), ⟨_, BinOk.add_int, ?_⟩⟩))
      refine WE.const_int ⟨_, BinOk.add_int, WE.const_int ⟨_, BinOk.pow_int (by decide) (by decide) (by lia), WE.const_int ⟨_, BinOk.mod_int (by decide), ?_⟩⟩⟩
      have hb := fmod_range (a := (x.fmod 2147483629 + 40503 * p + 977) ^ (3 : Int).toNat) (m := 2147483587) (by decide)
      generalize ((x.fmod 2147483629 + 40503 * p + 977) ^ (3 : Int).toNat).fmod 2147483587 = b at hb
      have hm2 := mul_bound (a := b) (b := 2 * p + 5003) (A := 2147483587) (B := 2005003) hb.1 (by lia) (by lia) (by lia)
      have hm3 := mul_bound (a := p) (b := p) (A := 1000000) (B := 1000000) hp0 hp0 hp hp
      refine WX.cons (NoX.ok _) (WS.assign (.inl rfl) ?_)
      refine WE.binop (WE.binop (WE.binop (WE.binop (WE.binop ?_))))
      refine WE.name (d := .int b) (by rfl) (WE.binop (WE.binop (WE.const_int (WE.name (d := .int p) (by rfl) ⟨_, BinOk.mul_int (.of_left (by decide)), WE.const_int ⟨_, BinOk.add_int, ?_⟩⟩))))
      refine ⟨_, BinOk.mul_int (mulFit (by lia)), WE.binop (WE.name (d := .int p) (by rfl) (WE.name (d := .int p) (by rfl) ⟨_, BinOk.mul_int (mulFit (by lia)), ⟨_, BinOk.add_int, ?_⟩⟩))⟩
      generalize b * (2 * p + 5003) = u at hm2
      generalize p * p = v at hm3
      refine WE.const_int ⟨_, BinOk.add_int, WE.const_int ⟨_, BinOk.pow_int (by decide) (by decide) (by lia), WE.const_int ⟨_, BinOk.mod_int (by decide), ?_⟩⟩⟩
      have hc := fmod_range (a := (u + v + 11) ^ (3 : Int).toNat) (m := 2147483579) (by decide)
      generalize ((u + v + 11) ^ (3 : Int).toNat).fmod 2147483579 = w at hc
      refine WX.cons (NoX.ok _) (WS.ret (WE.binop (WE.binop ?_)))
      refine WE.name (d := .int w) (by rfl) (WE.const_int ⟨_, BinOk.fdiv_int (by decide) (pylong_small (by decide) (by decide)), ?_⟩)
      refine WE.name (d := .int m) (by rfl) ⟨_, BinOk.mod_int (by lia), _, rfl, not_own_int, fun o' ho => ?_⟩
      have ho : o' = penO ns (p + 1) q := by simpa [St.set] using ho.symm
      have := fmod_range (a := w.fdiv 64) hm1
      exact ⟨_, p + 1, _, rfl, this.1, this.2, ho, by lia, by lia, hq⟩
  · refine ⟨(by intro q; cases q), fun _ => WX.nil ?_⟩
    have hx := fmod_range (a := x) (m := 2147483629) (by decide)
    refine WX.cons (NoX.ok _) (WS.assign (.inl rfl) ?_)
    refine WE.binop (WE.binop (WE.binop (WE.binop (WE.binop ?_))))
    refine WE.name (d := .int x) (by rfl) (WE.const_int ⟨_, BinOk.mod_int (by decide), ?_⟩)
    refine WE.binop (WE.const_int (WE.name (d := .int p) (by rfl) ⟨_, BinOk.mul_int (.of_left (by decide)), ⟨_, BinOk.add_int, ?_⟩⟩))
    refine WE.const_int ⟨_, BinOk.add_int, WE.const_int ⟨_, BinOk.pow_int (by decide) (by decide) (by lia), WE.const_int ⟨_, BinOk.mod_int (by decide), ?_⟩⟩⟩
    have hb := fmod_range (a := (x.fmod 2147483629 + 40503 * p + 977) ^ (3 : Int).toNat) (m := 2147483587) (by decide)
    generalize ((x.fmod 2147483629 + 40503 * p + 977) ^ (3 : Int).toNat).fmod 2147483587 = b at hb
    have hm2 := mul_bound (a := b) (b := 2 * p + 5003) (A := 2147483587) (B := 2005003) hb.1 (by lia) (by lia) (by lia)
    have hm3 := mul_bound (a := p) (b := p) (A := 1000000) (B := 1000000) hp0 hp0 hp hp
    refine WX.cons (NoX.ok _) (WS.assign (.inl rfl) ?_)
    refine WE.binop (WE.binop (WE.binop (WE.binop (WE.binop ?_))))
    refine WE.name (d := .int b) (by rfl) (WE.binop (WE.binop (WE.const_int (WE.name (d := .int p) (by rfl) ⟨_, BinOk.mul_int (.of_left (by decide)), WE.const_int ⟨_, BinOk.add_int, ?_⟩⟩))))
    refine ⟨_, BinOk.mul_int (mulFit (by lia)), WE.binop (WE.name (d := .int p) (by rfl) (WE.name (d := .int p) (by rfl) ⟨_, BinOk.mul_int (mulFit (by lia)), ⟨_, BinOk.add_int, ?_⟩⟩))⟩
    generalize b * (2 * p + 5003) = u at hm2
    generalize p * p = v at hm3
    refine WE.const_int ⟨_, BinOk.add_int, WE.const_int ⟨_, BinOk.pow_int (by decide) (by decide) (by lia), WE.const_int ⟨_, BinOk.mod_int (by decide), ?_⟩⟩⟩
    have hc := fmod_range (a := (u + v + 11) ^ (3 : Int).toNat) (m := 2147483579) (by decide)
    generalize ((u + v + 11) ^ (3 : Int).toNat).fmod 2147483579 = w at hc
    refine WX.cons (NoX.ok _) (WS.ret (WE.binop (WE.binop ?_)))
    refine WE.name (d := .int w) (by rfl) (WE.const_int ⟨_, BinOk.fdiv_int (by decide) (pylong_small (by decide) (by decide)), ?_⟩)
    refine WE.name (d := .int m) (by rfl) ⟨_, BinOk.mod_int (by lia), _, rfl, not_own_int, fun o' ho => ?_⟩
    have ho : o' = penO ns (p + 1) q := by simpa [St.set] using ho.symm
    have := fmod_range (a := w.fdiv 64) hm1
    exact ⟨_, p + 1, _, rfl, this.1, this.2, ho, by lia, by lia, hq⟩
end Mine

namespace Mine

section
variable {Γ : Cx} {σ : St}
inductive QDraw2 (ns : List Int) (j : Nat) (Q : D → St → Prop) (d₂ : D) (σ₂ : St) : Prop
  | mk (m p q : Int) (e : d₂ = .int m) (h1 : 1 ≤ m) (h2 : m ≤ 65536) (h3 : σ₂.own[j]? = some (penO ns p q)) (h4 : 0 ≤ p) (h5 : p ≤ 1000000) (h6 : 0 ≤ q)
      (f : ∀ d p' q' : Int, 0 ≤ d → d < m → 0 ≤ p' → p' ≤ p + 1 → 0 ≤ q' → Q (.int d) { σ₂ with own := σ₂.own.set j (penO ns p' q') })
inductive QDraw (Γ : Cx) (ns : List Int) (e2 : Expr) (Q : D → St → Prop) (d : D) (σ₁ : St) : Prop
  | mk (j : Nat) (e : d = .own j) (w : WE Γ e2 (QDraw2 ns j Q) σ₁)
/-- a draw -/
theorem WE.draw {px pos : Pos} {e1 e2 : Expr} {ns : List Int} {Q : D → St → Prop} (G : GE Γ) (hlv : 1 ≤ Γ.lv) (hk : Γ.env.kindOf "_law_draw" = some .globalImplicit) (hns : ns.length ≤ 64)
    (h : WE Γ e1 (QDraw Γ ns e2 Q) σ)
    (hs : [e1, e2].all notStar = true := by rfl) : WE Γ (.Call (.Name "_law_draw" px) [e1, e2] [] pos) Q σ := by
  refine WE.def1 (i := 18) G (by decide) k_law_draw c_law_draw hlv hk ?_ rfl hs (by decide)
  refine WE.mono h ?_
  rintro d σ₁ ⟨j, rfl, h2⟩
  refine WE.mono h2 ?_
  rintro d₂ σ₂ ⟨m, p, q, rfl, hm1, hm, hj, hp0, hp, hq, hQ⟩
  refine ⟨j, penO ns p q, [.int m], rfl, rfl, ?_, hj, Drawn ns m p, b_law_draw G ns p q m hns hp0 hp hq hm1 hm, ?_⟩
  · intro d hd
    rw [List.mem_singleton.mp hd]; exact not_own_int
  · rintro r o' ⟨d, p', q', rfl, h1, h2, rfl, h3, h4, h5⟩
    exact hQ d p' q' h1 h2 h3 h4 h5
/-- one of some ints -/
theorem ItemOk.pick {vals : List Int} {d : Int} (h0 : 0 ≤ d) (hd : d < vals.length) (hz : vals.length ≤ 1000) : ItemOk Γ σ (intsD vals) (.int d) (.int (vals.getD d.toNat 0)) := by
  refine ItemOk.lst h0 (by lia) ?_
  rw [List.getElem?_map, getD_some (by lia)]; rfl
end

structure SpaceOk (s : List Int × List Int) : Prop where
  len : s.2.length = s.1.length ∧ 1 ≤ s.1.length ∧ s.1.length ≤ 4
  oct : (∀ o ∈ s.1, 0 ≤ o ∧ o < 256) ∧ ∀ o ∈ s.2, 0 ≤ o ∧ o < 256

theorem getLo {a b x y : OO} {ds : List OO} : (a :: b :: (ds ++ [x, y]))[ds.length + 2]? = some x := by simp
theorem getHi {a b x y : OO} {ds : List OO} : (a :: b :: (ds ++ [x, y]))[ds.length + 3]? = some y := by simp
theorem setLo {a b x y z : OO} {ds : List OO} : (a :: b :: (ds ++ [x, y])).set (ds.length + 2) z = a :: b :: (ds ++ [z, y]) := by simp
theorem setHi {a b x y z : OO} {ds : List OO} : (a :: b :: (ds ++ [x, y])).set (ds.length + 3) z = a :: b :: (ds ++ [x, z]) := by simp
theorem allIn {vals : List Int} (h : vals.all (fun v => decide (0 ≤ v) && decide (v < 256)) = true) (i : Nat) : 0 ≤ vals.getD i 0 ∧ vals.getD i 0 < 256 := by
  rw [List.getD_eq_getElem?_getD]
  cases q : vals[i]? with
  | none => decide
  | some v =>
    have := List.all_eq_true.mp h v (List.mem_of_getElem? q)
    simpa using this
theorem six_le : (6 : Nat) ≤ sizeLine := by rw [sizeLine_eq]; decide
theorem ints_own {vals : List Int} : ∀ d ∈ vals.map D.int, ∀ i, d ≠ .own i := fun d hd => by
  obtain ⟨x, _, rfl⟩ := List.mem_map.mp hd
  exact not_own_int

inductive JSpaces (ns : List Int) (p : Int) (i : Nat) (σ : St) : Prop
  | mk (sp : Spaces) (pp qq : Int) (ds : List OO) (j1 : σ.own = penO ns pp qq :: .lst (sp.map spl) :: ds) (j2 : 0 ≤ pp) (j3 : pp ≤ p + 1 + 9 * i) (j4 : 0 ≤ qq) (j5 : sp.length = i) (j6 : (∀ s ∈ sp, SpaceOk s)) (j7 : σ.loc "pen" = some (.own 0)) (j8 : σ.loc "spaces" = some (.own 1))
inductive JLoHi (ns : List Int) (sp : Spaces) (ds : List OO) (p2 : Int) (j : Nat) (σ' : St) : Prop
  | mk (lo hi : List Int) (p3 q3 : Int) (j1 : σ'.own = penO ns p3 q3 :: .lst (sp.map spl) :: (ds ++ [.lst (lo.map .int), .lst (hi.map .int)])) (j2 : 0 ≤ p3) (j3 : p3 ≤ p2 + 2 * j) (j4 : 0 ≤ q3) (j5 : lo.length = j) (j6 : hi.length = j) (j7 : (∀ o ∈ lo, 0 ≤ o ∧ o < 256)) (j8 : (∀ o ∈ hi, 0 ≤ o ∧ o < 256)) (j9 : σ'.loc "pen" = some (.own 0)) (j10 : σ'.loc "spaces" = some (.own 1)) (j11 : σ'.loc "low" = some (.own (ds.length + 2))) (j12 : σ'.loc "high" = some (.own (ds.length + 3)))
theorem b_law_spaces {Γ : Cx} (G : GE Γ) (hlv : 2 ≤ Γ.lv) (ns : List Int) (p q : Int) (hns : ns.length ≤ 64) (hp0 : 0 ≤ p) (hp : p ≤ 900000) (hq : 0 ≤ q) :
    Body Γ (fnAt 19) ["pen"] [.own 0] [penO ns p q] (fun r ow => ∀ o', ow[0]? = some o' → ∃ (sp : Spaces) (p' q' : Int), r = .lst (sp.map spl) ∧ SpOk sp ∧ sp.length ≤ 4 ∧ o' = penO ns p' q' ∧ 0 ≤ p' ∧ p' ≤ p + 64 ∧ 0 ≤ q') := by
  intro L f cd
  have G' : GE (Γ.callee (fnAt 19) L f cd 1) := G
  have hlv' : 1 ≤ (Γ.callee (fnAt 19) L f cd 1).lv := by show 1 ≤ Γ.lv - 1; lia
  refine WX.cons (NoX.ok _) (WS.assign (.inl rfl) (WE.listOwn ⟨by simp, Nat.zero_le _, ?_⟩))
  refine WX.cons (NoX.ok _) (WS.for_ (WE.ty (x := "range") G' (by simp) rfl ?_))
  refine WE.draw (ns := ns) G' hlv' rfl hns (WE.name (d := .own 0) (by rfl) ⟨0, rfl, WE.const_int ⟨5, p, q, rfl, by decide, by decide, rfl, hp0, by lia, hq, ?_⟩⟩)
  intro d p1 q1 hd0 hd1 hp10 hp11 hq1
  obtain ⟨n, rfl⟩ := Int.eq_ofNat_of_zero_le hd0
  refine ⟨_, CallOk.range1.here, _, JSpaces ns p, ItOk.rng (n := n) (small_nat (by lia)) (rangeSize_nat n), ⟨[], p1, q1, [], rfl, hp10, by lia, hq1, rfl, by simp, by rfl, by rfl⟩, ?_, ?_⟩
  · rintro i e σ he ⟨sp, pp, qq, ds, e1, h1, h2, h3, h4, h5, e2, e3⟩
    have hin : i < n := by have := (List.getElem?_eq_some_iff.mp he).1; simpa [rangeInts] using this
    have hi5 : i < 5 := by lia
    refine WAsg.name (.inl rfl) ?_
    refine WX.cons (NoX.ok _) (WS.assign (.inl rfl) (WE.binop (WE.const_int ?_)))
    refine WE.draw (ns := ns) G' hlv' rfl hns (WE.name (by exact loc_ne e2) ⟨0, rfl, WE.const_int ⟨4, pp, qq, rfl, by decide, by decide, by show σ.own[0]? = _; rw [e1]; rfl, h1, by lia, h3, ?_⟩⟩)
    intro len p2 q2 hl0 hl1 hp20 hp21 hq2
    obtain ⟨l, rfl⟩ := Int.eq_ofNat_of_zero_le hl0
    refine ⟨_, BinOk.add_int, ?_⟩
    have el : (1 : Int) + (l : Int) = ((l + 1 : Nat) : Int) := by lia
    rw [el]
    have eo : σ.own.set 0 (penO ns p2 q2) = penO ns p2 q2 :: .lst (sp.map spl) :: ds := by rw [e1]; rfl
    refine WX.cons (NoX.ok _) (WS.assign (.inl rfl) (WE.listOwn ⟨by simp, Nat.zero_le _, ?_⟩))
    refine WX.cons (NoX.ok _) (WS.assign (.inl rfl) (WE.listOwn ⟨by simp, Nat.zero_le _, ?_⟩))
    refine WX.cons (NoX.ok _) (WS.for_ (WE.ty (x := "range") G' (by simp) rfl (WE.name (d := .int ((l + 1 : Nat) : Int)) (by exact loc_ne (loc_mk (loc_ne (loc_mk loc_same)))) ⟨_, CallOk.range1.here, ?_⟩)))
    refine ⟨_, JLoHi ns sp ds p2, ItOk.rng (n := l + 1) (small_nat (by lia)) (rangeSize_nat _), ?_, ?_, ?_⟩
    · refine ⟨[], [], p2, q2, ?_, hp20, by lia, hq2, rfl, rfl, by simp, by simp, ?_, ?_, ?_, ?_⟩
      · show (σ.own.set 0 (penO ns p2 q2) ++ [OO.lst []]) ++ [OO.lst []] = _
        rw [eo]; simp
      · exact loc_ne (loc_mk (loc_ne (loc_mk (loc_ne (loc_mk (loc_ne e2))))))
      · exact loc_ne (loc_mk (loc_ne (loc_mk (loc_ne (loc_mk (loc_ne e3))))))
      · refine loc_ne (loc_mk ?_)
        rw [loc_same]
        show some (D.own (σ.own.set 0 (penO ns p2 q2)).length) = _
        rw [eo]; rfl
      · rw [loc_same]
        show some (D.own (σ.own.set 0 (penO ns p2 q2) ++ [OO.lst []]).length) = _
        rw [eo]; simp
    · rintro j e' σ' he' ⟨lo, hi, p3, q3, o1, h6, h7, h8, hlo, hhi, hlr, hhr, l1, l2, l3, l4⟩
      have hjl : j < l + 1 := by have := (List.getElem?_eq_some_iff.mp he').1; simpa [rangeInts] using this
      refine WAsg.name (.inl rfl) ?_
      refine WX.cons (NoX.ok _) (WS.assign (.inl rfl) (WE.sub (WE.list (WE.const_int (WE.const_int (WE.const_int (WE.const_int (WE.const_int (WE.const_int ⟨ints_own (vals := [0, 128, 255, 65, 0, 32]), six_le, ?_⟩)))))))))
      refine WE.draw (ns := ns) G' hlv' rfl hns (WE.name (by exact loc_ne l1) ⟨0, rfl, WE.const_int ⟨6, p3, q3, rfl, by decide, by decide, by show σ'.own[0]? = _; rw [o1]; rfl, h6, by lia, h8, ?_⟩⟩)
      intro v p4 q4 hv0 hv1 hp40 hp41 hq4
      refine ⟨_, ItemOk.pick (vals := [0, 128, 255, 65, 0, 32]) hv0 (by exact hv1) (by decide), ?_⟩
      have hone := allIn (vals := [0, 128, 255, 65, 0, 32]) (by decide) v.toNat
      generalize ([0, 128, 255, 65, 0, 32] : List Int).getD v.toNat 0 = one at hone
      have eo4 : σ'.own.set 0 (penO ns p4 q4) = penO ns p4 q4 :: .lst (sp.map spl) :: (ds ++ [.lst (lo.map .int), .lst (hi.map .int)]) := by rw [o1]; rfl
      refine WX.cons (NoX.ok _) (WS.expr (WE.method mAppend (WE.name (by exact loc_ne (loc_mk (loc_ne l3))) ⟨SelfOk.own (ds := lo.map .int) (by show (σ'.own.set 0 (penO ns p4 q4))[ds.length + 2]? = _; rw [eo4]; exact getLo), ?_⟩)))
      refine WE.name loc_same (WCall.append (ds := lo.map .int) (by show (σ'.own.set 0 (penO ns p4 q4))[ds.length + 2]? = _; rw [eo4]; exact getLo) not_own_int (len_map_le (by lia)) ⟨rfl, ?_⟩)
      have eo5 : (σ'.own.set 0 (penO ns p4 q4)).set (ds.length + 2) (.lst (lo.map .int ++ [.int one])) = penO ns p4 q4 :: .lst (sp.map spl) :: (ds ++ [.lst ((lo ++ [one]).map .int), .lst (hi.map .int)]) := by rw [eo4, setLo, List.map_append]; rfl
      refine WX.cons (NoX.ok _) (WS.expr (WE.method mAppend (WE.name (by exact loc_mk (loc_ne (loc_mk (loc_ne l4)))) ⟨SelfOk.own (ds := hi.map .int) (by show ((σ'.own.set 0 (penO ns p4 q4)).set (ds.length + 2) (.lst (lo.map .int ++ [.int one])))[ds.length + 3]? = _; rw [eo5]; exact getHi), ?_⟩)))
      refine WE.sub (WE.list (WE.name (d := .int one) (by exact loc_mk loc_same) (WE.const_int (WE.bu (x := "min") G' (by simp) rfl (WE.const_int (WE.binop (WE.name (d := .int one) (by exact loc_mk loc_same) (WE.const_int ⟨_, BinOk.add_int, ⟨_, CallOk.min_two.here, ⟨ints_own (vals := [one, 255, if one + 3 < 255 then one + 3 else 255]), three_le, ?_⟩⟩⟩))))))))
      refine WE.draw (ns := ns) G' hlv' rfl hns (WE.name (by exact loc_mk (loc_ne (loc_mk (loc_ne l1)))) ⟨0, rfl, WE.const_int ⟨3, p4, q4, rfl, by decide, by decide, by show ((σ'.own.set 0 (penO ns p4 q4)).set (ds.length + 2) (.lst (lo.map .int ++ [.int one])))[0]? = _; rw [eo5]; rfl, hp40, by lia, hq4, ?_⟩⟩)
      intro u p5 q5 hu0 hu1 hp50 hp51 hq5
      refine ⟨_, ItemOk.pick (vals := [one, 255, if one + 3 < 255 then one + 3 else 255]) hu0 (by exact hu1) (by exact Nat.le_of_ble_eq_true rfl), ?_⟩
      have htwo : 0 ≤ ([one, 255, if one + 3 < 255 then one + 3 else 255] : List Int).getD u.toNat 0 ∧ ([one, 255, if one + 3 < 255 then one + 3 else 255] : List Int).getD u.toNat 0 < 256 := by
        have : u = 0 ∨ u = 1 ∨ u = 2 := by lia
        rcases this with rfl | rfl | rfl
        · exact hone
        · exact (by decide : (0 : Int) ≤ 255 ∧ (255 : Int) < 256)
        · show 0 ≤ (if one + 3 < 255 then one + 3 else 255) ∧ (if one + 3 < 255 then one + 3 else 255) < 256
          split <;> lia
      generalize ([one, 255, if one + 3 < 255 then one + 3 else 255] : List Int).getD u.toNat 0 = two at htwo
      have eo6 : (((σ'.own.set 0 (penO ns p4 q4)).set (ds.length + 2) (.lst (lo.map .int ++ [.int one]))).set 0 (penO ns p5 q5)) = penO ns p5 q5 :: .lst (sp.map spl) :: (ds ++ [.lst ((lo ++ [one]).map .int), .lst (hi.map .int)]) := by rw [eo5]; rfl
      refine WCall.append (ds := hi.map .int) (by show (((σ'.own.set 0 (penO ns p4 q4)).set (ds.length + 2) (.lst (lo.map .int ++ [.int one]))).set 0 (penO ns p5 q5))[ds.length + 3]? = _; rw [eo6]; exact getHi) not_own_int (len_map_le (by lia)) ⟨rfl, WX.nil ?_⟩
      refine ⟨lo ++ [one], hi ++ [two], p5, q5, ?_, hp50, by lia, hq5, by simp [hlo], by simp [hhi], ?_, ?_, ?_, ?_, ?_, ?_⟩
      · show (((σ'.own.set 0 (penO ns p4 q4)).set (ds.length + 2) (.lst (lo.map .int ++ [.int one]))).set 0 (penO ns p5 q5)).set (ds.length + 3) _ = _
        rw [eo6, setHi, List.map_append, List.map_append]; rfl
      · intro o ho
        rcases List.mem_append.mp ho with ho | ho
        · exact hlr o ho
        · rw [List.mem_singleton.mp ho]; exact hone
      · intro o ho
        rcases List.mem_append.mp ho with ho | ho
        · exact hhr o ho
        · rw [List.mem_singleton.mp ho]; exact htwo
      · exact loc_mk (loc_mk (loc_mk (loc_ne (loc_mk (loc_ne l1)))))
      · exact loc_mk (loc_mk (loc_mk (loc_ne (loc_mk (loc_ne l2)))))
      · exact loc_mk (loc_mk (loc_mk (loc_ne (loc_mk (loc_ne l3)))))
      · exact loc_mk (loc_mk (loc_mk (loc_ne (loc_mk (loc_ne l4)))))
    · rintro σ' ⟨lo, hi, p3, q3, o1, h6, h7, h8, hlo, hhi, hlr, hhr, l1, l2, l3, l4⟩
      have hrl : (rangeInts 0 1 (l + 1)).length = l + 1 := by simp [rangeInts]
      rw [List.length_map, hrl] at h7 hlo hhi
      refine WX.freeze (ds.length + 2) (.lst (lo.map .int)) (NoX.ok _) (by rw [o1]; exact getLo) nofun (by show 1 ≤ ds.length + 2; lia) ?_
      have o2 : (σ'.freeze (ds.length + 2) (.lst (lo.map .int))).own = penO ns p3 q3 :: .lst (sp.map spl) :: (ds ++ [.dead, .lst (hi.map .int)]) := by
        show σ'.own.set _ _ = _
        rw [o1, setLo]
      refine WX.freeze (ds.length + 3) (.lst (hi.map .int)) (NoX.ok _) (by rw [o2]; exact getHi) nofun (by show 1 ≤ ds.length + 3; lia) ?_
      have fz_other : ∀ {σ'' : St} {k j : Nat} {o : OO} {x : Str}, σ''.loc x = some (.own k) → k ≠ j → (σ''.freeze j o).loc x = some (.own k) := fun {σ''} {k j o x} h hn => by
        unfold St.freeze
        show (σ''.loc x).map _ = _
        rw [h]
        simp [D.thaw, hn]
      have o3 : ((σ'.freeze (ds.length + 2) (.lst (lo.map .int))).freeze (ds.length + 3) (.lst (hi.map .int))).own = penO ns p3 q3 :: .lst (sp.map spl) :: (ds ++ [.dead, .dead]) := by
        show ((σ'.freeze (ds.length + 2) (.lst (lo.map .int))).own).set _ _ = _
        rw [o2, setHi]
      have m1 : ((σ'.freeze (ds.length + 2) (.lst (lo.map .int))).freeze (ds.length + 3) (.lst (hi.map .int))).loc "pen" = some (.own 0) := fz_other (fz_other l1 (by lia)) (by lia)
      have m2 : ((σ'.freeze (ds.length + 2) (.lst (lo.map .int))).freeze (ds.length + 3) (.lst (hi.map .int))).loc "spaces" = some (.own 1) := fz_other (fz_other l2 (by lia)) (by lia)
      have m3 : ((σ'.freeze (ds.length + 2) (.lst (lo.map .int))).freeze (ds.length + 3) (.lst (hi.map .int))).loc "low" = some (intsD lo) := fz_ne (fz_own l3) not_own_lst
      have m4 : ((σ'.freeze (ds.length + 2) (.lst (lo.map .int))).freeze (ds.length + 3) (.lst (hi.map .int))).loc "high" = some (intsD hi) := fz_own (fz_other l4 (by lia))
      generalize (σ'.freeze (ds.length + 2) (.lst (lo.map .int))).freeze (ds.length + 3) (.lst (hi.map .int)) = σ2 at o3 m1 m2 m3 m4
      refine WX.cons (NoX.ok _) (WS.expr (WE.method mAppend (WE.name m2 ⟨SelfOk.own (ds := sp.map spl) (by rw [o3]; rfl), ?_⟩)))
      refine WE.tuple (WE.name m3 (WE.name m4 ⟨?_, two_le, WCall.append (ds := sp.map spl) (by rw [o3]; rfl) not_own_tup (len_map_le (by lia)) ⟨rfl, WX.nil ?_⟩⟩))
      · intro d hd
        simp only [List.mem_cons, List.not_mem_nil, or_false] at hd
        rcases hd with rfl | rfl <;> exact not_own_lst
      refine ⟨sp ++ [(lo, hi)], p3, q3, ds ++ [.dead, .dead], ?_, h6, by lia, h8, by simp [h4], ?_, m1, m2⟩
      · show σ2.own.set 1 _ = _
        rw [o3, List.map_append]; rfl
      · intro s hs
        rcases List.mem_append.mp hs with hs | hs
        · exact h5 s hs
        · rw [List.mem_singleton.mp hs]
          exact ⟨⟨by show hi.length = lo.length; lia, by show 1 ≤ lo.length; lia, by show lo.length ≤ 4; lia⟩, hlr, hhr⟩
  · rintro σ ⟨sp, pp, qq, ds, e1, h1, h2, h3, h4, h5, e2, e3⟩
    have hrl : (rangeInts 0 1 n).length = n := by simp [rangeInts]
    rw [List.length_map, hrl] at h2 h4
    refine WX.freeze 1 (.lst (sp.map spl)) (NoX.ok _) (by rw [e1]; rfl) nofun (Nat.le_refl _) ?_
    refine WX.cons (NoX.ok _) (WS.ret (WE.name (fz_own e3) ⟨_, rfl, not_own_lst, fun o' ho => ?_⟩))
    have ho : penO ns pp qq = o' := by
      have : (σ.own.set 1 OO.dead)[0]? = some o' := ho
      rw [e1] at this
      simpa using this
    exact ⟨sp, pp, qq, rfl, ⟨by lia, fun s hs => (h5 s hs).len, fun s hs => (h5 s hs).oct⟩, by lia, ho.symm, h1, by lia, h3⟩
end Mine

namespace Mine

theorem getS {a b x : OO} {ds : List OO} : (a :: b :: (ds ++ [x]))[ds.length + 2]? = some x := by simp
theorem setS {a b x z : OO} {ds : List OO} : (a :: b :: (ds ++ [x])).set (ds.length + 2) z = a :: b :: (ds ++ [z]) := by simp
theorem five_le : (5 : Nat) ≤ sizeLine := by rw [sizeLine_eq]; decide
inductive JOcts (ns : List Int) (p : Int) (sp : Spaces) (i : Nat) (σ : St) : Prop
  | mk (os : List Int) (pp qq : Int) (ds : List OO) (j1 : σ.own = penO ns pp qq :: .lst (os.map .int) :: ds) (j2 : 0 ≤ pp) (j3 : pp ≤ p + 1 + 9 * i) (j4 : 0 ≤ qq) (j5 : os.length ≤ 4 * i) (j6 : (∀ o ∈ os, 0 ≤ o ∧ o < 256)) (j7 : σ.loc "pen" = some (.own 0)) (j8 : σ.loc "spaces" = some (.lst (sp.map spl))) (j9 : σ.loc "octets" = some (.own 1))
inductive JSome (ns : List Int) (p3 : Int) (os : List Int) (ds : List OO) (j : Nat) (es : List D) (ow : List OO) : Prop
  | mk (xs : List Int) (p4 q4 : Int) (j1 : es = xs.map .int) (j2 : xs.length = j) (j3 : (∀ o ∈ xs, 0 ≤ o ∧ o < 256)) (j4 : ow = penO ns p4 q4 :: .lst (os.map .int) :: ds) (j5 : 0 ≤ p4) (j6 : p4 ≤ p3 + j) (j7 : 0 ≤ q4)
inductive JMore (ns : List Int) (sp : Spaces) (os : List Int) (ds : List OO) (n : Nat) (p4 : Int) (o : Out) (σ' : St) : Prop
  | mk (j1 : o = .next) (ys : List Int) (p6 q6 : Int) (j2 : σ'.own = penO ns p6 q6 :: .lst (os.map .int) :: (ds ++ [.lst (ys.map .int)])) (j3 : ys.length = n) (j4 : (∀ o ∈ ys, 0 ≤ o ∧ o < 256)) (j5 : 0 ≤ p6) (j6 : p6 ≤ p4 + 3) (j7 : 0 ≤ q6) (j8 : σ'.loc "pen" = some (.own 0)) (j9 : σ'.loc "spaces" = some (.lst (sp.map spl))) (j10 : σ'.loc "octets" = some (.own 1)) (j11 : σ'.loc "some" = some (.own (ds.length + 2)))
theorem b_law_octets {Γ : Cx} (G : GE Γ) (hlv : 2 ≤ Γ.lv) (ns : List Int) (p q : Int) (sp : Spaces) (hs : SpOk sp) (hns : ns.length ≤ 64) (hp0 : 0 ≤ p) (hp : p ≤ 900000) (hq : 0 ≤ q) :
    Body Γ (fnAt 20) ["pen", "spaces"] [.own 0, .lst (sp.map spl)] [penO ns p q] (fun r ow => ∀ o', ow[0]? = some o' → ∃ (os : List Int) (p' q' : Int), r = intsD os ∧ os.length ≤ 10 ∧ (∀ o ∈ os, 0 ≤ o ∧ o < 256) ∧ o' = penO ns p' q' ∧ 0 ≤ p' ∧ p' ≤ p + 64 ∧ 0 ≤ q') := by
  intro L f cd
  have G' : GE (Γ.callee (fnAt 20) L f cd 1) := G
  have hfew := hs.few
  have hlv' : 1 ≤ (Γ.callee (fnAt 20) L f cd 1).lv := by show 1 ≤ Γ.lv - 1; lia
  refine WX.cons (NoX.ok _) (WS.assign (.inl rfl) (WE.listOwn ⟨by simp, Nat.zero_le _, ?_⟩))
  refine WX.cons (NoX.ok _) (WS.forK (WE.ty (x := "range") G' (by simp) rfl ?_))
  refine WE.draw (ns := ns) G' hlv' rfl hns (WE.name (d := .own 0) (by rfl) ⟨0, rfl, WE.const_int ⟨6, p, q, rfl, by decide, by decide, rfl, hp0, by lia, hq, ?_⟩⟩)
  intro d p1 q1 hd0 hd1 hp10 hp11 hq1
  obtain ⟨n, rfl⟩ := Int.eq_ofNat_of_zero_le hd0
  refine ⟨_, CallOk.range1.here, _, JOcts ns p sp, ItOk.rng (n := n) (small_nat (by lia)) (rangeSize_nat n), ⟨[], p1, q1, [], rfl, hp10, by lia, hq1, by simp, by simp, by rfl, by rfl, by rfl⟩, ?_, ?_⟩
  · rintro i e σ he ⟨os, pp, qq, ds, e1, h1, h2, h3, h4, h5, e2, e3, e4⟩ K R hK hR
    have hin : i < n := by have := (List.getElem?_eq_some_iff.mp he).1; simpa [rangeInts] using this
    have hi5 : i < 6 := by lia
    refine WAsg.name (.inl rfl) ?_
    refine WX.cons (NoX.ok _) (WS.if_ (NoX.ok _) (WT.and_cons (WT.value (WE.name (by exact loc_ne e3) ⟨_, TruthOk.lst (len_map_le (by lia)), fun c => ?_, fun c => ?_⟩) (by intro _; rfl))))
    · have hne : 0 < sp.length := by
        cases sp with
        | nil => simp at c
        | cons _ _ => simp
      refine WT.and_cons (WT.cmp ?_)
      refine WE.draw (ns := ns) G' hlv' rfl hns (WE.name (by exact loc_ne e2) ⟨0, rfl, WE.const_int ⟨4, pp, qq, rfl, by decide, by decide, by show σ.own[0]? = _; rw [e1]; rfl, h1, by lia, h3, ?_⟩⟩)
      intro d2 p2 q2 _ _ hp20 hp21 hq2
      have o2 : σ.own.set 0 (penO ns p2 q2) = penO ns p2 q2 :: .lst (os.map .int) :: ds := by rw [e1]; rfl
      refine WE.const_int ⟨_, CmpOk.gt_int.here, fun c2 => ?_, fun c2 => ?_⟩
      · refine WT.and_nil ⟨fun _ => ?_, (by intro q; cases q)⟩
        refine WX.cons (NoX.ok _) (WS.assignT (WE.sub (WE.name (d := .lst (sp.map spl)) (by exact loc_mk (loc_ne e3)) ?_)))
        refine WE.draw (ns := ns) G' hlv' rfl hns (WE.name (by exact loc_mk (loc_ne e2)) ⟨0, rfl, WE.bu (x := "len") G' (by simp) rfl (WE.name (d := .lst (sp.map spl)) (by exact loc_mk (loc_ne e3)) ⟨_, (CallOk.len_lst (len_map_le (by lia))).here, ⟨_, p2, q2, rfl, by rw [List.length_map]; lia, by rw [List.length_map]; lia, by show (σ.own.set 0 (penO ns p2 q2))[0]? = _; rw [o2]; rfl, hp20, by lia, hq2, ?_⟩⟩)⟩)
        intro d3 p3 q3 hd30 hd31 hp30 hp31 hq3
        rw [List.length_map] at hd31
        obtain ⟨s, hsi⟩ : ∃ s, sp[d3.toNat]? = some s := ⟨_, List.getElem?_eq_getElem (by lia)⟩
        have hmem := List.mem_of_getElem? hsi
        have hlen := hs.len s hmem
        have hoct := hs.oct s hmem
        have o3 : (σ.own.set 0 (penO ns p2 q2)).set 0 (penO ns p3 q3) = penO ns p3 q3 :: .lst (os.map .int) :: ds := by rw [o2]; rfl
        refine ⟨_, ItemOk.lst (d := spl s) hd30 (by lia) (by rw [List.getElem?_map, hsi]; rfl), [intsD s.1, intsD s.2], rfl, rfl, WAsg.name (callee_stor (.inr rfl)) (WAsg.name (callee_stor (.inr rfl)) ?_)⟩
        refine WX.cons (NoX.ok _) (WS.assignCompOwn (.of rfl rfl) (callee_stor (.inl rfl)) (WE.ty (x := "range") G' (by simp) rfl (WE.bu (x := "len") G' (by simp) rfl (WE.name (d := intsD s.1) (by exact loc_ne loc_same) ⟨_, (CallOk.len_lst (len_map_le (by lia))).here, ⟨_, CallOk.range1.here, ?_⟩⟩))))
        rw [List.length_map]
        refine ⟨_, JSome ns p3 os ds, ItOk.rng (n := s.1.length) (small_nat (by lia)) (rangeSize_nat _), by simp [rangeInts, sizeLine_eq]; lia, ⟨[], p3, q3, rfl, rfl, by simp, o3, hp30, by lia, hq3⟩, ?_, ?_⟩
        · rintro cl C j e' es ow he' ⟨xs, p4, q4, rfl, hxl, hxr, rfl, h7, h8, h9⟩
          have hj : j < s.1.length := by have := (List.getElem?_eq_some_iff.mp he').1; simpa [rangeInts] using this
          rw [List.getElem?_map, rangeInts_get hj] at he'
          cases he'
          have hjj : ((0 : Int) + (j : Int) * 1).toNat = j := by lia
          have g1 : (s.1.map D.int)[((0 : Int) + (j : Int) * 1).toNat]? = some (.int (s.1.getD j 0)) := by rw [hjj, List.getElem?_map, getD_some hj]; rfl
          have g2 : (s.2.map D.int)[((0 : Int) + (j : Int) * 1).toNat]? = some (.int (s.2.getD j 0)) := by rw [hjj, List.getElem?_map, getD_some (by lia)]; rfl
          have r1 := octet_at hoct.1 j
          have r2 := octet_at hoct.2 j
          generalize s.1.getD j 0 = x1 at g1 r1
          generalize s.2.getD j 0 = x2 at g2 r2
          refine WAsg.name (.inl rfl) ⟨fun _ => ?_, fun q => by cases q⟩
          refine WE.sub (WE.list (WE.sub (WE.name (d := intsD s.1) (by refine cl1 ?_ ?_ ?_ <;> first | exact loc_ne loc_same | rfl) (WE.name loc_same ⟨_, ItemOk.lst (by lia) (by lia) g1, ?_⟩))))
          refine WE.sub (WE.name (d := intsD s.2) (by refine cl1 ?_ ?_ ?_ <;> first | exact loc_same | rfl) (WE.name loc_same ⟨_, ItemOk.lst (by lia) (by lia) g2, ?_⟩))
          refine WE.binop (WE.binop (WE.sub (WE.name (d := intsD s.1) (by refine cl1 ?_ ?_ ?_ <;> first | exact loc_ne loc_same | rfl) (WE.name loc_same ⟨_, ItemOk.lst (by lia) (by lia) g1, ?_⟩))))
          refine WE.sub (WE.name (d := intsD s.2) (by refine cl1 ?_ ?_ ?_ <;> first | exact loc_same | rfl) (WE.name loc_same ⟨_, ItemOk.lst (by lia) (by lia) g2, ?_⟩))
          refine ⟨_, BinOk.add_int, WE.const_int ⟨_, BinOk.fdiv_int (by decide) (pylong_small (by decide) (by decide)), ⟨ints_own (vals := [x1, x2, (x1 + x2).fdiv 2]), three_le, ?_⟩⟩⟩
          refine WE.draw (Γ := Cx.comp _ _ cl C) (ns := ns) G hlv' rfl hns (WE.name (by refine cl1 ?_ ?_ ?_ <;> first | exact loc_ne (loc_ne (loc_mk (loc_mk (loc_ne e2)))) | rfl) ⟨0, rfl, WE.const_int ⟨3, p4, q4, rfl, by decide, by decide, rfl, h7, by lia, h9, ?_⟩⟩)
          intro u p5 q5 hu0 hu1 hp50 hp51 hq5
          refine ⟨_, ItemOk.pick (vals := [x1, x2, (x1 + x2).fdiv 2]) hu0 (by exact hu1) (by exact Nat.le_of_ble_eq_true rfl), not_own_int, ?_⟩
          have hx : 0 ≤ ([x1, x2, (x1 + x2).fdiv 2] : List Int).getD u.toNat 0 ∧ ([x1, x2, (x1 + x2).fdiv 2] : List Int).getD u.toNat 0 < 256 := by
            have : u = 0 ∨ u = 1 ∨ u = 2 := by lia
            rcases this with rfl | rfl | rfl
            · exact r1
            · exact r2
            · show 0 ≤ (x1 + x2).fdiv 2 ∧ (x1 + x2).fdiv 2 < 256
              rw [Int.fdiv_eq_ediv_of_nonneg _ (by decide)]
              lia
          generalize ([x1, x2, (x1 + x2).fdiv 2] : List Int).getD u.toNat 0 = x at hx
          refine ⟨xs ++ [x], p5, q5, by simp, by simp [hxl], ?_, rfl, hp50, by lia, hq5⟩
          intro o ho
          rcases List.mem_append.mp ho with ho | ho
          · exact hxr o ho
          · rw [List.mem_singleton.mp ho]; exact hx
        · rintro es ow ⟨xs, p4, q4, rfl, hxl, hxr, rfl, h7, h8, h9⟩
          have hrl : (rangeInts 0 1 s.1.length).length = s.1.length := by simp [rangeInts]
          rw [List.length_map, hrl] at hxl h8
          refine WX.cons (NoX.ok _) (WS.mono (Q := JMore ns sp os ds s.1.length p4) (WS.if_ (NoX.ok _) (WT.cmp ?_)) ?_)
          · refine WE.draw (ns := ns) G' hlv' rfl hns (WE.name (by exact loc_ne (loc_mk (loc_ne (loc_ne (loc_mk (loc_mk (loc_ne e2))))))) ⟨0, rfl, WE.const_int ⟨3, p4, q4, rfl, by decide, by decide, rfl, h7, by lia, h9, ?_⟩⟩)
            intro d5 p5 q5 _ _ hp50 hp51 hq5
            refine WE.const_int ⟨_, CmpOk.eq_int.here, ⟨fun c5 => ?_, fun c5 => WX.nil ⟨rfl, xs, p5, q5, rfl, hxl, hxr, hp50, by lia, hq5, ?_, ?_, ?_, ?_⟩⟩⟩
            · refine WX.cons (NoX.ok _) (WS.setItem (WE.sub (WE.list (WE.const_int (WE.const_int (WE.const_int (WE.const_int (WE.const_int ⟨ints_own (vals := [0, 64, 66, 129, 254]), five_le, ?_⟩))))))))
              refine WE.draw (ns := ns) G' hlv' rfl hns (WE.name (by exact loc_mk (loc_ne (loc_mk (loc_ne (loc_ne (loc_mk (loc_mk (loc_ne e2)))))))) ⟨0, rfl, WE.const_int ⟨5, p5, q5, rfl, by decide, by decide, rfl, hp50, by lia, hq5, ?_⟩⟩)
              intro d6 p6 q6 hd60 hd61 hp60 hp61 hq6
              refine ⟨_, ItemOk.pick (vals := [0, 64, 66, 129, 254]) hd60 (by exact hd61) (by decide), ?_⟩
              have hv := allIn (vals := [0, 64, 66, 129, 254]) (by decide) d6.toNat
              generalize ([0, 64, 66, 129, 254] : List Int).getD d6.toNat 0 = v at hv
              refine WE.name (d := .own (ds.length + 2)) (by exact loc_mk (loc_mk loc_same)) ?_
              refine WE.draw (ns := ns) G' hlv' rfl hns (WE.name (by exact loc_mk (loc_mk (loc_ne (loc_mk (loc_ne (loc_ne (loc_mk (loc_mk (loc_ne e2))))))))) ⟨0, rfl, WE.bu (x := "len") G' (by simp) rfl (WE.name (d := .own (ds.length + 2)) (by exact loc_mk (loc_mk loc_same)) ⟨_, CallOkS.len_own (ds := xs.map .int) getS (len_map_le (by lia)), ⟨_, p6, q6, rfl, by rw [List.length_map]; lia, by rw [List.length_map]; lia, rfl, hp60, by lia, hq6, ?_⟩⟩)⟩)
              intro d7 p7 q7 hd70 hd71 hp70 hp71 hq7
              rw [List.length_map] at hd71
              refine SetOk.lst (ds := xs.map .int) getS hd70 (by lia) (by rw [List.length_map]; lia) not_own_int (WX.nil ⟨rfl, xs.set d7.toNat v, p7, q7, ?_, by rw [List.length_set]; exact hxl, ?_, hp70, by lia, hq7, ?_, ?_, ?_, ?_⟩)
              · show (penO ns p7 q7 :: OO.lst (os.map .int) :: (ds ++ [OO.lst (xs.map .int)])).set (ds.length + 2) _ = _
                rw [setS, List.map_set]
              · intro o ho
                rcases List.mem_or_eq_of_mem_set ho with ho | ho
                · exact hxr o ho
                · rw [ho]; exact hv
              · exact loc_mk (loc_mk (loc_mk (loc_mk (loc_ne (loc_mk (loc_ne (loc_ne (loc_mk (loc_mk (loc_ne e2))))))))))
              · exact loc_mk (loc_mk (loc_mk (loc_mk (loc_ne (loc_mk (loc_ne (loc_ne (loc_mk (loc_mk (loc_ne e3))))))))))
              · exact loc_mk (loc_mk (loc_mk (loc_mk (loc_ne (loc_mk (loc_ne (loc_ne (loc_mk (loc_mk (loc_ne e4))))))))))
              · exact loc_mk (loc_mk (loc_mk (loc_mk loc_same)))
            · exact loc_mk (loc_ne (loc_mk (loc_ne (loc_ne (loc_mk (loc_mk (loc_ne e2)))))))
            · exact loc_mk (loc_ne (loc_mk (loc_ne (loc_ne (loc_mk (loc_mk (loc_ne e3)))))))
            · exact loc_mk (loc_ne (loc_mk (loc_ne (loc_ne (loc_mk (loc_mk (loc_ne e4)))))))
            · exact loc_mk loc_same
          · rintro o σ' ⟨rfl, ys, p6, q6, o6, hyl, hyr, h10, h11, h12, m1, m2, m3, m4⟩
            refine WX.cons (NoX.ok _) (WS.expr (WE.method mExtend (WE.name m3 ⟨SelfOk.own (ds := os.map .int) (by rw [o6]; rfl), WE.name m4 (WCall.extendOwn (ds := os.map .int) (es := ys.map .int) (by rw [o6]; rfl) (by rw [o6]; exact getS) (by rw [List.length_map, List.length_map, sizeLine_eq]; lia) ⟨rfl, WX.nil (WX.nil ?_)⟩)⟩)))
            refine hK _ ⟨os ++ ys, p6, q6, ds ++ [.lst (ys.map .int)], ?_, h10, by lia, h12, by rw [List.length_append]; lia, ?_, m1, m2, m3⟩
            · show σ'.own.set 1 _ = _
              rw [o6, List.map_append]; rfl
            · intro o ho
              rcases List.mem_append.mp ho with ho | ho
              · exact h5 o ho
              · exact hyr o ho
      · refine ⟨(by intro q; cases q), fun _ => ?_⟩
        refine WX.cons (NoX.ok _) (WS.expr (WE.method mAppend (WE.name (by exact loc_mk (loc_ne e4)) ⟨SelfOk.own (ds := os.map .int) (by show (σ.own.set 0 (penO ns p2 q2))[1]? = _; rw [o2]; rfl), ?_⟩)))
        refine WE.draw (ns := ns) G' hlv' rfl hns (WE.name (by exact loc_mk (loc_ne e2)) ⟨0, rfl, WE.const_int ⟨256, p2, q2, rfl, by decide, by decide, (by show (σ.own.set 0 (penO ns p2 q2))[0]? = _; rw [o2]; rfl), hp20, by lia, hq2, ?_⟩⟩)
        intro v p8 q8 hv0 hv1 hp80 hp81 hq8
        refine WCall.append (ds := os.map .int) (by show ((σ.own.set 0 (penO ns p2 q2)).set 0 (penO ns p8 q8))[1]? = _; rw [o2]; rfl) not_own_int (len_map_le (by lia)) ⟨rfl, WX.nil (WX.nil ?_)⟩
        refine hK _ ⟨os ++ [v], p8, q8, ds, ?_, hp80, by lia, hq8, by rw [List.length_append, List.length_singleton]; lia, ?_, loc_mk (loc_mk (loc_mk (loc_ne e2))), loc_mk (loc_mk (loc_mk (loc_ne e3))), loc_mk (loc_mk (loc_mk (loc_ne e4)))⟩
        · show ((σ.own.set 0 (penO ns p2 q2)).set 0 (penO ns p8 q8)).set 1 _ = _
          rw [o2, List.map_append]; rfl
        · intro o ho
          rcases List.mem_append.mp ho with ho | ho
          · exact h5 o ho
          · rw [List.mem_singleton.mp ho]; exact ⟨hv0, hv1⟩
    · refine ⟨(by intro q; cases q), fun _ => ?_⟩
      refine WX.cons (NoX.ok _) (WS.expr (WE.method mAppend (WE.name (by exact loc_ne e4) ⟨SelfOk.own (ds := os.map .int) (by show σ.own[1]? = _; rw [e1]; rfl), ?_⟩)))
      refine WE.draw (ns := ns) G' hlv' rfl hns (WE.name (by exact loc_ne e2) ⟨0, rfl, WE.const_int ⟨256, pp, qq, rfl, by decide, by decide, (by show σ.own[0]? = _; rw [e1]; rfl), h1, by lia, h3, ?_⟩⟩)
      intro v p8 q8 hv0 hv1 hp80 hp81 hq8
      refine WCall.append (ds := os.map .int) (by show (σ.own.set 0 (penO ns p8 q8))[1]? = _; rw [e1]; rfl) not_own_int (len_map_le (by lia)) ⟨rfl, WX.nil (WX.nil ?_)⟩
      refine hK _ ⟨os ++ [v], p8, q8, ds, ?_, hp80, by lia, hq8, by rw [List.length_append, List.length_singleton]; lia, ?_, loc_mk (loc_mk (loc_ne e2)), loc_mk (loc_mk (loc_ne e3)), loc_mk (loc_mk (loc_ne e4))⟩
      · show (σ.own.set 0 (penO ns p8 q8)).set 1 _ = _
        rw [e1, List.map_append]; rfl
      · intro o ho
        rcases List.mem_append.mp ho with ho | ho
        · exact h5 o ho
        · rw [List.mem_singleton.mp ho]; exact ⟨hv0, hv1⟩
  · rintro σ ⟨os, pp, qq, ds, e1, h1, h2, h3, h4, h5, e2, e3, e4⟩
    have hrl : (rangeInts 0 1 n).length = n := by simp [rangeInts]
    rw [List.length_map, hrl] at h2 h4
    refine WX.freeze 1 (.lst (os.map .int)) (NoX.ok _) (by rw [e1]; rfl) nofun (Nat.le_refl _) ?_
    refine WX.cons (NoX.ok _) (WS.ret (WE.slice (WE.name (d := intsD os) (by exact fz_own e4) (WE.const_int ⟨_, rfl, ⟨_, slice_ints (a := 0) (b := min 10 os.length) (by lia) rfl (by exact clip_nat (k := 10)), _, rfl, not_own_lst, fun o' ho => ?_⟩⟩))))
    have ho : penO ns pp qq = o' := by
      have : (σ.own.set 1 OO.dead)[0]? = some o' := ho
      rw [e1] at this
      simpa using this
    refine ⟨_, pp, qq, rfl, by rw [List.length_take]; lia, fun o hm => h5 o (List.mem_of_mem_drop (List.mem_of_mem_take hm)), ho.symm, h1, by lia, h3⟩
end Mine

namespace Mine

abbrev us (x : Str) : List Nat := x.cps.toList
theorem us_inj {x y : Str} (h : us x = us y) : x = y := by
  obtain ⟨⟨a⟩⟩ := x
  obtain ⟨⟨b⟩⟩ := y
  have : a = b := h
  subst this; rfl
theorem us_len (x : Str) : (us x).length = x.length := Array.length_toList
theorem us_cut (x : Str) (a b : Nat) : us (cut x a b) = ((us x).drop a).take (b - a) := rfl
theorem cut_len {x : Str} {a b : Nat} (hb : b ≤ x.length) : (cut x a b).length = b - a := by
  rw [← us_len, us_cut, List.length_take, List.length_drop, us_len]; lia
abbrev pre (x : Str) (n : Nat) : Str := cut x 0 n
abbrev suf (x : Str) (n : Nat) : Str := cut x n x.length
theorem us_pre (x : Str) (n : Nat) : us (pre x n) = (us x).take n := by rw [us_cut]; rfl
theorem us_suf (x : Str) (n : Nat) : us (suf x n) = (us x).drop n := by
  rw [us_cut]; exact List.take_of_length_le (by rw [List.length_drop, us_len]; exact Nat.le_refl _)
theorem suf_len {x : Str} {n : Nat} : (suf x n).length = x.length - n := by rw [← us_len, us_suf, List.length_drop, us_len]
theorem suf_suf (x : Str) (a b : Nat) : suf (suf x a) b = suf x (a + b) := us_inj (by rw [us_suf, us_suf, us_suf, List.drop_drop])
theorem pre_suf {x : Str} {a b : Nat} (h : a ≤ b) : pre (suf x a) (b - a) = cut x a b := us_inj (by rw [us_pre, us_suf, us_cut])
theorem suf_zero (x : Str) : suf x 0 = x := us_inj (by rw [us_suf, List.drop_zero])
theorem starts_iff {x y : Str} : Txt.startswith x y = true ↔ y.length ≤ x.length ∧ pre x y.length = y := by
  unfold Txt.startswith
  rw [StrLaws.subAt_eq, List.drop_zero, Bool.and_eq_true, decide_eq_true_eq, Nat.zero_add]
  constructor
  · rintro ⟨h1, h2⟩
    refine ⟨h1, us_inj ?_⟩
    rw [us_pre]; exact beq_iff_eq.mp h2
  · rintro ⟨h1, h2⟩
    refine ⟨h1, beq_iff_eq.mpr ?_⟩
    rw [← us_pre, h2]
theorem joinT_cons (x : Str) (xs : List Str) : us (joinT (x :: xs)) = us x ++ us (joinT xs) := by
  have key : ∀ (l : List Str) (acc : Array Nat), ((l.foldl (fun acc p => acc ++ (Str.ofString "").cps ++ p.cps) acc)).toList = acc.toList ++ (l.map us).flatten := by
    intro l
    induction l with
    | nil => intro acc; simp
    | cons p l ih =>
      intro acc
      rw [List.foldl_cons, ih]
      have : (Str.ofString "").cps.toList = [] := by decide
      simp [us, this]
  have all : ∀ l : List Str, us (joinT l) = (l.map us).flatten := by
    intro l
    cases l with
    | nil => rfl
    | cons p l =>
      show ((l.foldl (fun acc p => acc ++ (Str.ofString "").cps ++ p.cps) p.cps)).toList = _
      rw [key]; rfl
  rw [all, all]; rfl
theorem joinT_nil : us (joinT []) = [] := rfl
theorem empty_iff {x : Str} : x = "" ↔ x.length = 0 := by
  constructor
  · rintro rfl; decide
  · intro h
    refine us_inj ?_
    have : us (Str.ofString "") = [] := by decide
    rw [this]
    exact List.length_eq_zero_iff.mp (by rw [us_len]; exact h)

/-- at a place the longest text of a sure key, and its key -/
structure Best (S : Sures) (x : Str) (n : Nat) (k : List Int) : Prop where
  pos : 1 ≤ n
  le : n ≤ x.length
  at_ : look S (pre x n) = some k
  max : ∀ m, n < m → m ≤ x.length → look S (pre x m) = none
def NoBest (S : Sures) (x : Str) : Prop := ∀ m, 1 ≤ m → m ≤ x.length → look S (pre x m) = none
theorem Best.uniq {S : Sures} {x : Str} {n m : Nat} {k j : List Int} (a : Best S x n k) (b : Best S x m j) : n = m ∧ k = j := by
  have e : n = m := by
    rcases Nat.lt_trichotomy n m with h | h | h
    · have := a.max m h b.le; rw [b.at_] at this; cases this
    · exact h
    · have := b.max n h a.le; rw [a.at_] at this; cases this
  subst e
  have := a.at_.symm.trans b.at_
  exact ⟨rfl, Option.some.inj this⟩
inductive Put (S : Sures) : Str → Option (List (List Int)) → Prop
  | nil {x : Str} : x.length = 0 → Put S x (some [])
  | stop {x : Str} : x.length ≠ 0 → NoBest S x → Put S x none
  | step {x : Str} {n : Nat} {k : List Int} {r : Option (List (List Int))} : Best S x n k → Put S (suf x n) r → Put S x (r.map (k :: ·))
theorem Put.uniq {S : Sures} {x : Str} {r r' : Option (List (List Int))} (a : Put S x r) (b : Put S x r') : r = r' := by
  induction a generalizing r' with
  | nil h =>
    cases b with
    | nil _ => rfl
    | stop h' _ => exact absurd h h'
    | step hb _ => exact absurd (Nat.le_trans hb.pos hb.le) (by lia)
  | stop h hn =>
    cases b with
    | nil h' => exact absurd h' h
    | stop _ _ => rfl
    | step hb _ => have := hn _ hb.pos hb.le; rw [hb.at_] at this; cases this
  | step hb _ ih =>
    cases b with
    | nil h' => exact absurd (Nat.le_trans hb.pos hb.le) (by lia)
    | stop _ hn => have := hn _ hb.pos hb.le; rw [hb.at_] at this; cases this
    | step hb' p' =>
      obtain ⟨rfl, rfl⟩ := hb.uniq hb'
      rw [ih p']

/-- the dict of sure keys, read -/
def sureP (sp : Spaces) (al : Chars) (t : Str) (k : List Int) : Prop := textAt al k = t ∧ t ≠ "" ∧ sureB sp k = true
theorem look_append {α β : Type} [DecidableEq α] {xs ys : List (α × β)} {a : α} : look (xs ++ ys) a = (look xs a).or (look ys a) := by
  unfold look
  rw [List.find?_append]
  cases xs.find? _ <;> rfl
theorem look_one {α β : Type} [DecidableEq α] {a b : α} {c : β} : look [(a, c)] b = if a = b then some c else none := by
  unfold look
  by_cases h : a = b <;> simp [h]
open Classical in
theorem fold_look {sp : Spaces} {al : Chars} {t : Str} : ∀ (ks : List (List Int)) (acc : Sures), look (ks.foldl (sureStep sp al) acc) t = (look acc t).or (ks.find? fun k => decide (sureP sp al t k))
  | [], acc => by simp
  | k :: ks, acc => by
    rw [List.foldl_cons, fold_look ks, List.find?_cons]
    unfold sureStep
    by_cases q : textAt al k ≠ "" ∧ look acc (textAt al k) = none ∧ sureB sp k = true
    · rw [if_pos q, look_append, look_one]
      by_cases e : textAt al k = t
      · have : sureP sp al t k := ⟨e, by rw [← e]; exact q.1, q.2.2⟩
        rw [if_pos e, decide_eq_true this, ← e, q.2.1]; simp
      · have : ¬ sureP sp al t k := fun h => e h.1
        rw [if_neg e, decide_eq_false this]; simp
    · rw [if_neg q]
      by_cases h : sureP sp al t k
      · rw [decide_eq_true h]
        obtain ⟨h1, h2, h3⟩ := h
        have : look acc t ≠ none := fun z => q ⟨by rw [h1]; exact h2, by rw [h1]; exact z, h3⟩
        cases z : look acc t with
        | none => exact absurd z this
        | some _ => rfl
      · rw [decide_eq_false h]
open Classical in
theorem sureL_look {sp : Spaces} {al : Chars} {t : Str} : look (sureL sp al) t = (srt (al.map (·.1))).find? fun k => decide (sureP sp al t k) := by
  unfold sureL
  rw [fold_look]; simp [look]
end Mine

namespace Mine

noncomputable def putP (sp : Spaces) (al : Chars) (x : Str) (k : List Int) : Bool := decide ((textAt al k).length ≠ 0) && (Txt.startswith x (textAt al k) && sureB sp k)
noncomputable def putsL (sp : Spaces) (al : Chars) (x : Str) : List (List Int) := (srt (al.map (·.1))).filter (putP sp al x)
theorem putP_iff {sp : Spaces} {al : Chars} {x : Str} {k : List Int} : putP sp al x k = true ↔ (textAt al k).length ≠ 0 ∧ (textAt al k).length ≤ x.length ∧ pre x (textAt al k).length = textAt al k ∧ sureB sp k = true := by
  unfold putP
  rw [Bool.and_eq_true, Bool.and_eq_true, decide_eq_true_eq, starts_iff, and_assoc]
theorem pre_len {x : Str} {m : Nat} (h : m ≤ x.length) : (pre x m).length = m := by rw [cut_len h]; lia
theorem sure_put {sp : Spaces} {al : Chars} {x : Str} {m : Nat} {k : List Int} (h1 : 1 ≤ m) (h2 : m ≤ x.length) : sureP sp al (pre x m) k ↔ putP sp al x k = true ∧ (textAt al k).length = m := by
  rw [putP_iff]
  constructor
  · rintro ⟨a, b, c⟩
    have hl : (textAt al k).length = m := by rw [a, pre_len h2]
    exact ⟨⟨by lia, by lia, by rw [hl]; exact a.symm, c⟩, hl⟩
  · rintro ⟨⟨a, b, c, d⟩, rfl⟩
    exact ⟨c.symm, by rw [c]; intro q; exact a (empty_iff.mp q), d⟩
theorem look_put {sp : Spaces} {al : Chars} {x : Str} {m : Nat} {k : List Int} (h1 : 1 ≤ m) (h2 : m ≤ x.length) (h : look (sureL sp al) (pre x m) = some k) : k ∈ putsL sp al x ∧ (textAt al k).length = m := by
  classical
  rw [sureL_look] at h
  have hm := List.mem_of_find?_eq_some h
  have hp := List.find?_some h
  have hp := (sure_put h1 h2).mp (of_decide_eq_true hp)
  exact ⟨List.mem_filter.mpr ⟨hm, hp.1⟩, hp.2⟩
theorem noBest_of {sp : Spaces} {al : Chars} {x : Str} (h : putsL sp al x = []) : NoBest (sureL sp al) x := fun m h1 h2 => by
  cases q : look (sureL sp al) (pre x m) with
  | none => rfl
  | some k =>
    have := (look_put h1 h2 q).1
    rw [h] at this; exact nomatch this
theorem best_of {sp : Spaces} {al : Chars} {x : Str} {M : Int} {K : List Int} {rest : List (List Int)} (hmax : ∀ k ∈ putsL sp al x, ((textAt al k).length : Int) ≤ M)
    (hK : (putsL sp al x).filter (fun k => decide (((textAt al k).length : Int) = M)) = K :: rest) : Best (sureL sp al) x M.toNat K ∧ K ∈ putsL sp al x ∧ ((textAt al K).length : Int) = M := by
  classical
  have hKm : K ∈ (putsL sp al x).filter (fun k => decide (((textAt al k).length : Int) = M)) := by rw [hK]; exact List.mem_cons_self
  obtain ⟨k1, k2⟩ := List.mem_filter.mp hKm
  have k2 := of_decide_eq_true k2
  have k3 := putP_iff.mp (List.mem_filter.mp k1).2
  have e : M.toNat = (textAt al K).length := by lia
  refine ⟨⟨by lia, by lia, ?_, fun m h1 h2 => ?_⟩, k1, k2⟩
  · rw [sureL_look]
    have hf : (fun k => decide (sureP sp al (pre x M.toNat) k)) = fun k => (putP sp al x k && decide (((textAt al k).length : Int) = M)) := by
      funext k
      rw [Bool.eq_iff_iff, decide_eq_true_eq, Bool.and_eq_true, decide_eq_true_eq, sure_put (by lia) (by lia)]
      constructor
      · rintro ⟨a, b⟩; exact ⟨a, by lia⟩
      · rintro ⟨a, b⟩; exact ⟨a, by lia⟩
    rw [hf]
    have : ((putsL sp al x).filter (fun k => decide (((textAt al k).length : Int) = M))).head? = some K := by rw [hK]; rfl
    unfold putsL at this
    rw [List.filter_filter, List.head?_filter] at this
    rw [← this]
    congr 1
    funext k
    rw [Bool.and_comm]
  · cases q : look (sureL sp al) (pre x m) with
    | none => rfl
    | some k =>
      have hk := look_put (by lia) h2 q
      have := hmax k hk.1
      lia

theorem text_pos_str {al : Chars} (h : ChOk al) (k : List Int) : (textAt al k).length ≤ sizeLine := by have := textAt_len h k; rw [sizeLine_eq]; lia
theorem ItemOk.chars {Γ : Cx} {σ : St} {al : Chars} {k : List Int} (h : k ∈ al.map (·.1)) : ItemOk Γ σ (charsD al) (dkey k) (.str (textAt al k)) := ItemOk.tdct (text_look h)
theorem puts_mem {sp : Spaces} {al : Chars} {x : Str} {k : List Int} (h : k ∈ putsL sp al x) : k ∈ al.map (·.1) := srt_mem (List.mem_filter.mp h).1
theorem puts_len {sp : Spaces} {al : Chars} {x : Str} (ha : ChOk al) : (putsL sp al x).length ≤ 16 := by
  have := List.length_filter_le (putP sp al x) (srt (al.map (·.1)))
  rw [srt_len, List.length_map] at this
  have := ha.few
  unfold putsL; lia
def octsAll (ks : List (List Int)) : List Int := (ks.map kO).flatten
theorem kO_len {k : List Int} (h : KeyOk k) : 1 ≤ (kO k).length ∧ (kO k).length ≤ 4 := by
  obtain ⟨l, c, rfl, h1, h4, _⟩ := h
  show 1 ≤ (octs l c).length ∧ _
  rw [show (kO [(l : Int), c]) = octs l c from rfl, octs_len]; lia

def putD : Option (List (List Int)) → D
  | none => .none
  | some ks => intsD (octsAll ks)
inductive JPut (sp : Spaces) (al : Chars) (x : Str) (k : Nat) (σ : St) : Prop
  | mk (ln : Str) (done : List (List Int)) (j1 : k = ln.length) (j2 : ln.length ≤ x.length) (j3 : σ.loc "line" = some (.str ln)) (j4 : σ.loc "codes" = some (.own 0)) (j5 : σ.own = [.lst ((octsAll done).map .int)]) (j6 : σ.loc "spaces" = some (.lst (sp.map spl))) (j7 : σ.loc "chars" = some (charsD al)) (j8 : (octsAll done).length + 4 * ln.length ≤ 4 * x.length) (j9 : ∀ res, Put (sureL sp al) ln res → Put (sureL sp al) x (res.map (done ++ ·)))
theorem b_law_put {Γ : Cx} (G : GE Γ) (hlv : 8 ≤ Γ.lv) (sp : Spaces) (al : Chars) (x : Str) (hs : SpOk sp) (ha : ChOk al) (hx : x.length ≤ 100) :
    Body Γ (fnAt 26) ["spaces", "chars", "line"] [.lst (sp.map spl), charsD al, .str x] [] (fun r _ => ∃ res, Put (sureL sp al) x res ∧ r = putD res) := by
  intro L f cd
  have G' : GE (Γ.callee (fnAt 26) L f cd 0) := G
  have hfew := ha.few
  refine WX.cons (NoX.ok _) (WS.assign (.inl rfl) (WE.listOwn ⟨by simp, Nat.zero_le _, ?_⟩))
  refine WX.cons (NoX.ok _) (WS.while_ (Ei := NoX) (NoX.ok _) (JPut sp al x) x.length ⟨x, [], rfl, Nat.le_refl _, by rfl, by rfl, rfl, by rfl, by rfl, by simp [octsAll], fun res h => by cases res <;> exact h⟩ (fun _ _ _ _ x => x.elim) ?_)
  rintro k σ ⟨ln, done, rfl, hln, e1, e2, e3, e4, e5, hsz, hput⟩
  refine WT.value (WE.name e1 ⟨_, TruthOk.str (by rw [sizeLine_eq]; lia), fun c => ?_, fun c => ?_⟩) (by intro _; rfl)
  · have c := of_decide_eq_true c
    refine WX.cons (NoX.ok _) (WS.assignComp (.of rfl rfl) (callee_stor (.inl rfl)) (WE.bu (x := "sorted") G' (by simp) rfl (WE.name e5 ⟨_, (CallOk.sorted_chars ha).here, ?_⟩)))
    refine ⟨_, fun i ds ow => ds = (((srt (al.map (·.1))).take i).filter (putP sp al ln)).map dkey ∧ ow = σ.own, ItOk.lst, len_map_le (by rw [srt_len, List.length_map]; lia), ⟨by simp, rfl⟩, ?_, ?_⟩
    · rintro cl C i e ds ow he ⟨hds, rfl⟩
      rw [List.getElem?_map] at he
      obtain ⟨k, hk, rfl⟩ := Option.map_eq_some_iff.mp he
      have hmem : k ∈ al.map (·.1) := srt_mem (List.mem_of_getElem? hk)
      have no : putP sp al ln k = false → ds = (((srt (al.map (·.1))).take (i + 1)).filter (putP sp al ln)).map dkey := fun h => by rw [take_filter_f hk h]; exact hds
      refine WAsg.name (.inl rfl) ?_
      refine WT.and_cons (WT.value (WE.sub (WE.name (d := charsD al) (by refine cl1 e5 ?_ ?_ <;> rfl) (WE.name loc_same ⟨_, ItemOk.chars hmem, ⟨_, TruthOk.str (text_pos_str ha k), fun c1 => ?_, fun c1 => ?_⟩⟩))) (by intro _; rfl))
      · refine WT.and_cons (WT.value (WE.method mStarts (WE.name (d := .str ln) (by refine cl1 e1 ?_ ?_ <;> rfl) ⟨SelfOk.str, WE.sub (WE.name (d := charsD al) (by refine cl1 e5 ?_ ?_ <;> rfl) (WE.name loc_same ⟨_, ItemOk.chars hmem, WCall.pure CallOk.starts.here ⟨_, TruthOk.bool, fun c2 => ?_, fun c2 => ?_⟩⟩))⟩)) (by intro _; rfl))
        · refine WT.and_cons (WT.value (WE.def (Γ := Cx.comp _ _ cl C) (i := 25) G (by decide) k_law_is_sure c_law_is_sure (by show 1 ≤ Γ.lv - 1; lia) rfl ?_) (by intro _; rfl))
          refine WE.name (d := .lst (sp.map spl)) (by refine cl1 e4 ?_ ?_ <;> rfl) (WE.name (d := dkey k) loc_same ⟨rfl, ?_, _, b_law_is_sure (by exact G) (by show 4 ≤ Γ.lv - 1; lia) sp k hs (keyOk_of ha hmem), ?_⟩)
          · intro d hd
            simp only [List.mem_cons, List.not_mem_nil, or_false] at hd
            rcases hd with rfl | rfl
            · exact not_own_lst
            · exact not_own_tup
          rintro r rfl
          refine ⟨_, TruthOk.bool, fun c3 => WT.and_nil ⟨fun _ => ⟨fun _ => ?_, (by intro q; cases q)⟩, (by intro q; cases q)⟩, fun c3 => ⟨(by intro q; cases q), fun _ => ⟨(by intro q; cases q), fun _ => ⟨no ?_, rfl⟩⟩⟩⟩
          · refine WE.name loc_same ⟨not_own_tup, ?_, rfl⟩
            rw [take_filter_t hk (by unfold putP; rw [c1, c2, c3]; rfl), hds]
          · unfold putP; rw [c3]; simp
        · exact ⟨(by intro q; cases q), fun _ => ⟨(by intro q; cases q), fun _ => ⟨no (by unfold putP; rw [c2]; simp), rfl⟩⟩⟩
      · exact ⟨(by intro q; cases q), fun _ => ⟨(by intro q; cases q), fun _ => ⟨no (by unfold putP; rw [c1]; simp), rfl⟩⟩⟩
    rintro ds ow ⟨hds, rfl⟩
    rw [List.length_map, List.take_length] at hds
    subst hds
    have hLl := puts_len (sp := sp) (x := ln) ha
    have hLm : ∀ k ∈ putsL sp al ln, k ∈ al.map (·.1) := fun k h => puts_mem h
    have eL : (srt (al.map (·.1))).filter (putP sp al ln) = putsL sp al ln := rfl
    rw [eL]
    refine WX.cons (NoX.ok _) (WS.if_ (NoX.ok _) (WT.not (WT.value (WE.name loc_same ⟨_, TruthOk.lst (len_map_le (by lia)), fun c1 => ?_, fun c1 => ?_⟩) (by intro _; rfl))))
    · have hnil : putsL sp al ln = [] := by cases q : putsL sp al ln with
        | nil => rfl
        | cons _ _ => rw [q] at c1; simp at c1
      refine WX.cons (NoX.ok _) (WS.ret (WE.const_none ⟨_, rfl, (by intro i q; cases q), ⟨none, ?_, rfl⟩⟩))
      exact hput none (.stop c (noBest_of hnil))
    have hne : putsL sp al ln ≠ [] := by intro q; rw [q] at c1; simp at c1
    refine WX.nil ?_
    obtain ⟨M, hM, hmax⟩ := exists_max (l := (putsL sp al ln).map fun k => ((textAt al k).length : Int)) (by simpa using hne)
    refine WX.cons (NoX.ok _) (WS.assign (callee_stor (.inr rfl)) (WE.bu (x := "max") G' (by simp) rfl (WE.comp (.of rfl rfl) (WE.name (d := .lst ((putsL sp al ln).map dkey)) loc_same ?_))))
    refine ⟨_, fun i ds ow => ds = ((putsL sp al ln).take i).map (fun k => D.int ((textAt al k).length)) ∧ ow = σ.own, ItOk.lst, len_map_le (by lia), ⟨by simp, rfl⟩, ?_, ?_⟩
    · rintro cl C i e ds ow he ⟨hds, rfl⟩
      rw [List.getElem?_map] at he
      obtain ⟨k, hk, rfl⟩ := Option.map_eq_some_iff.mp he
      have hmem := hLm k (List.mem_of_getElem? hk)
      refine WAsg.name (.inl rfl) ⟨fun _ => ?_, (by intro q; cases q)⟩
      refine WE.bu (Γ := Cx.comp _ _ cl C) (x := "len") G (by simp) rfl (WE.sub (WE.name (d := charsD al) (by refine cl1 (loc_ne (loc_mk e5)) ?_ ?_ <;> rfl) (WE.name loc_same ⟨_, ItemOk.chars hmem, ⟨_, (CallOk.len_str (text_pos_str ha k)).here, not_own_int, ?_, rfl⟩⟩)))
      rw [take_map_snoc hk, hds]
    rintro ds ow ⟨hds, rfl⟩
    rw [List.length_map, List.take_length] at hds
    subst hds
    refine ⟨.int M, ?_, ?_⟩
    · have := CallOk.max_lst (Γ := Γ.callee (fnAt 26) L f cd 0) hM hmax
      rw [List.map_map] at this
      exact this.here
    have hmax' : ∀ k ∈ putsL sp al ln, ((textAt al k).length : Int) ≤ M := fun k h => hmax _ (List.mem_map.mpr ⟨k, h, rfl⟩)
    obtain ⟨k0, hk0, hk0M⟩ := List.mem_map.mp hM
    obtain ⟨K, rest, hK⟩ : ∃ K rest, (putsL sp al ln).filter (fun k => decide (((textAt al k).length : Int) = M)) = K :: rest := by
      cases q : (putsL sp al ln).filter (fun k => decide (((textAt al k).length : Int) = M)) with
      | nil =>
        have : k0 ∈ (putsL sp al ln).filter (fun k => decide (((textAt al k).length : Int) = M)) := List.mem_filter.mpr ⟨hk0, decide_eq_true hk0M⟩
        rw [q] at this; exact nomatch this
      | cons K rest => exact ⟨K, rest, rfl⟩
    obtain ⟨hbest, hKm, hKM⟩ := best_of hmax' hK
    obtain ⟨l, cc, hKe, hl1, hl4, hc0, hcl⟩ := keyOk_of ha (hLm K hKm)
    refine WX.cons (NoX.ok _) (WS.assign (callee_stor (.inr rfl)) (WE.sub (WE.comp (.of rfl rfl) (WE.name (d := .lst ((putsL sp al ln).map dkey)) (by exact loc_ne (loc_mk loc_same)) ?_))))
    refine ⟨_, fun i ds ow => ds = (((putsL sp al ln).take i).filter (fun k => decide (((textAt al k).length : Int) = M))).map dkey ∧ ow = σ.own, ItOk.lst, len_map_le (by lia), ⟨by simp, rfl⟩, ?_, ?_⟩
    · rintro cl C i e ds ow he ⟨hds, rfl⟩
      rw [List.getElem?_map] at he
      obtain ⟨k, hk, rfl⟩ := Option.map_eq_some_iff.mp he
      have hmem := hLm k (List.mem_of_getElem? hk)
      refine WAsg.name (.inl rfl) ?_
      refine WT.cmp (WE.bu (Γ := Cx.comp _ _ cl C) (x := "len") G (by simp) rfl (WE.sub (WE.name (d := charsD al) (by refine cl1 (loc_ne (loc_mk (loc_ne (loc_mk e5)))) ?_ ?_ <;> rfl) (WE.name loc_same ⟨_, ItemOk.chars hmem, ⟨_, (CallOk.len_str (text_pos_str ha k)).here, ?_⟩⟩))))
      refine WE.name (d := .int M) (by refine cl1 loc_same ?_ ?_ <;> rfl) ⟨_, CmpOk.eq_int.here, fun c2 => ⟨fun _ => WE.name loc_same ⟨not_own_tup, ?_, rfl⟩, (by intro q; cases q)⟩, fun c2 => ⟨(by intro q; cases q), fun _ => ⟨?_, rfl⟩⟩⟩
      · rw [take_filter_t hk c2, hds]
      · rw [take_filter_f hk c2, hds]
    rintro ds ow ⟨hds, rfl⟩
    rw [List.length_map, List.take_length, hK] at hds
    subst hds
    refine WE.const_int ⟨_, ItemOk.lst (d := dkey K) (by decide) (by decide) rfl, ?_⟩
    subst hKe
    have hol : (octs l cc).length = l := octs_len l cc
    refine WX.cons (NoX.ok _) (WS.expr (WE.method mExtend (WE.name (d := .own 0) (by exact loc_ne (loc_mk (loc_ne (loc_mk (loc_ne (loc_mk e2)))))) ⟨SelfOk.own (ds := (octsAll done).map .int) (by show σ.own[0]? = _; rw [e3]; rfl), ?_⟩)))
    refine WE.comp (.of rfl rfl) (WE.ty (x := "range") G' (by simp) rfl (WE.sub (WE.name (d := dkey [(l : Int), cc]) (by exact loc_same) (WE.const_int ⟨_, ItemOk.tup (d := .int l) (by decide) (by decide) rfl, ⟨_, CallOk.range1.here, ?_⟩⟩))))
    refine ⟨_, fun i ds ow => ds = ((octs l cc).take i).map D.int ∧ ow = σ.own, ItOk.rng (n := l) (small_nat (by lia)) (rangeSize_nat l), by simp [rangeInts, sizeLine_eq]; lia, ⟨by simp, rfl⟩, ?_, ?_⟩
    · rintro cl C i e ds ow he ⟨hds, rfl⟩
      have hi : i < l := by have := (List.getElem?_eq_some_iff.mp he).1; simpa [rangeInts] using this
      rw [List.getElem?_map, rangeInts_get hi] at he
      cases he
      have hkk : ((l : Int) - 1 - (0 + (i : Int) * 1)).toNat = l - 1 - i := by lia
      refine WAsg.name (.inl rfl) ⟨fun _ => ?_, fun q => by cases q⟩
      refine WE.binop (WE.binop (WE.sub (WE.name (d := dkey [(l : Int), cc]) (by refine cl1 loc_same ?_ ?_ <;> rfl) (WE.const_int ⟨_, ItemOk.tup (d := .int cc) (by decide) (by decide) rfl, ?_⟩))))
      refine WE.binop (WE.const_int (WE.binop (WE.binop (WE.sub (WE.name (d := dkey [(l : Int), cc]) (by refine cl1 loc_same ?_ ?_ <;> rfl) (WE.const_int ⟨_, ItemOk.tup (d := .int l) (by decide) (by decide) rfl, WE.const_int ⟨_, BinOk.sub_int, WE.name loc_same ⟨_, BinOk.sub_int, ?_⟩⟩⟩))))))
      refine ⟨_, BinOk.pow_int (by lia) (by lia) (by decide), ?_⟩
      rw [hkk]
      refine ⟨_, BinOk.fdiv_int (pow_ne _) (pow_pylong (by lia)), WE.const_int ⟨_, BinOk.mod_int (by decide), not_own_int, ?_, rfl⟩⟩
      rw [take_snoc (octs_get hi), hds, List.map_append, div_octet]; rfl
    rintro ds ow ⟨hds, rfl⟩
    have hrl : (rangeInts 0 1 l).length = l := by simp [rangeInts]
    rw [List.length_map, hrl] at hds
    rw [List.take_of_length_le (by lia)] at hds
    subst hds
    refine WCall.extend (ds := (octsAll done).map .int) (by show σ.own[0]? = _; rw [e3]; rfl) (by rw [List.length_map, List.length_map, sizeLine_eq]; lia) ⟨rfl, ?_⟩
    have hM0 := hbest.pos
    have hMl := hbest.le
    refine WX.cons (NoX.ok _) (WS.assign (callee_stor (.inr rfl)) (WE.slice (WE.name (d := .str ln) (by exact loc_mk (loc_ne (loc_mk (loc_ne (loc_mk (loc_ne (loc_mk e1))))))) (WE.name (d := .int M) (by exact loc_mk (loc_ne (loc_mk loc_same))) ⟨_, rfl, ⟨_, SliceOk.str (a := M.toNat) (b := ln.length) (by rw [sizeLine_eq]; lia) (by lia) (.inr ⟨rfl, rfl⟩) hMl (Nat.le_refl _), WX.nil ?_⟩⟩))))
    have hoct : octsAll (done ++ [[(l : Int), cc]]) = octsAll done ++ octs l cc := by unfold octsAll; rw [List.map_append, List.flatten_append]; simp [kO, kL]
    have hsl : (suf ln M.toNat).length = ln.length - M.toNat := suf_len
    refine ⟨(suf ln M.toNat).length, by lia, suf ln M.toNat, done ++ [[(l : Int), cc]], rfl, by lia, loc_same, ?_, ?_, ?_, ?_, ?_, ?_⟩
    · exact loc_ne (loc_mk (loc_ne (loc_mk (loc_ne (loc_mk (loc_ne (loc_mk e2)))))))
    · show σ.own.set 0 _ = _
      rw [e3, hoct, List.map_append]; rfl
    · exact loc_ne (loc_mk (loc_ne (loc_mk (loc_ne (loc_mk (loc_ne (loc_mk e4)))))))
    · exact loc_ne (loc_mk (loc_ne (loc_mk (loc_ne (loc_mk (loc_ne (loc_mk e5)))))))
    · rw [hoct, List.length_append]; lia
    · intro res h
      have := hput _ (.step hbest h)
      cases res with
      | none => exact this
      | some r => simpa using this
  · have c := Decidable.not_not.mp (of_decide_eq_false c)
    refine WX.freeze 0 (.lst ((octsAll done).map .int)) (NoX.ok _) (by rw [e3]; rfl) nofun (Nat.le_refl _) ?_
    refine WX.cons (NoX.ok _) (WS.ret (WE.name (fz_own e2) ⟨_, rfl, not_own_lst, ⟨some done, ?_, rfl⟩⟩))
    have := hput (some []) (.nil c)
    simpa using this
end Mine

namespace Mine

/-- what the raise leans on -/
structure G1 (mg mb : Str → Option Value) (K : Frag) (C : Addr) : Prop where
  ff : mg "FontFault" = some (.ref C)
  keep : keepIn K (.ref C) = true
  ok : FFOk K C
  gE : mg "Exception" = none
  bE : mb "Exception" = some (.type "Exception")

theorem sure_of {sp : Spaces} {al : Chars} {t : Str} {k : List Int} (h : look (sureL sp al) t = some k) : k ∈ al.map (·.1) ∧ textAt al k = t ∧ t ≠ "" ∧ sureB sp k = true := by
  classical
  rw [sureL_look] at h
  have hm := srt_mem (List.mem_of_find?_eq_some h)
  have hp := List.find?_some h
  have hp := of_decide_eq_true hp
  exact ⟨hm, hp⟩
theorem sure_text_len {sp : Spaces} {al : Chars} (ha : ChOk al) {x : Str × List Int} (hx : x ∈ sureL sp al) : x.1.length ≤ 2 := by
  have : (look (sureL sp al) x.1).isSome = true := look_isSome.mpr (List.mem_map.mpr ⟨x, hx, rfl⟩)
  obtain ⟨k, hk⟩ := Option.isSome_iff_exists.mp this
  obtain ⟨_, e, _⟩ := sure_of hk
  rw [← e]; exact textAt_len ha k
theorem sureL_len {sp : Spaces} {al : Chars} (ha : ChOk al) : (sureL sp al).length ≤ 16 := by
  have := sure_len sp al (srt (al.map (·.1))) []
  rw [srt_len, List.length_map] at this
  have := ha.few
  unfold sureL
  simp at *; lia

abbrev lensOf (S : Sures) : List Int := 0 :: S.map fun x => ((x.1.length : Nat) : Int)

theorem set_twice {σ : St} {x : Str} {d d' : D} : (σ.set x d).set x d' = σ.set x d' := by
  unfold St.set
  congr 1
  funext y
  by_cases h : y = x <;> simp [h]

def ExOct (Γ : Cx) (C : Addr) (P : Prop) : ExPost := fun g s e s' => P ∧ ExRaw Γ C g s e s'
theorem ExOct.ok (Γ : Cx) (C : Addr) (P : Prop) : ExOk Γ (ExOct Γ C P) := fun g s g' h' tk e s' t x => ⟨x.1, ExRaw.ok Γ C g s g' h' tk e s' t x.2⟩
theorem WS.excMono {Γ : Cx} {σ : St} {E E' : ExPost} {st : Stmt} {Q : Out → St → Prop} (w : WS Γ E st Q σ) (h : ∀ g s e s', E g s e s' → E' g s e s') : WS Γ E' st Q σ := fun g s a => wpAny_mono (w g s a) (fun _ _ p => p) fun _ _ x => h _ _ _ _ x

theorem WE.bjoin {Γ : Cx} {σ : St} {Q : D → St → Prop} {kk : List (List Int)} {y : Str} {k : Nat} {p0 p1 p2 p3 : Pos} (h : σ.loc y = some (.lst (kk.map .bytes))) (ok : CallOk Γ (.builtin "bytes.join") [.bytes [], .lst (kk.map .bytes)] (.bytes kk.flatten)) (q : Q (.bytes kk.flatten) σ)
    (hline : (p1.endLine == p3.line) = true) (hd : (y == ("__debug__" : Str)) = false := by decide) : WE Γ (.Call (.Attribute (.Constant (.bytes []) k p0) "join" p1) [.Name y p2] [] p3) Q σ := by
  have := @WE.method Γ σ (.Constant (.bytes []) k p0) "join" p1 p3 [.Name y p2] "bytes" "bytes.join" Q mBJoin
  refine this ?_ (by unfold attributeBase; rfl) (by rfl) hline (by rfl)
  refine WE.const_bytes ?_
  exact ⟨SelfOk.bytes, WE.name h (WCall.pure ok.here q) hd⟩

inductive JTell (S : Sures) (x : Str) (M : Int) (k : Nat) (σ : St) : Prop
  | mk (n : Nat) (done : List (List Int)) (j1 : k = x.length - n) (j2 : n ≤ x.length) (j3 : σ.loc "place" = some (.int n)) (j4 : σ.loc "text" = some (.str x)) (j5 : σ.loc "keys" = some (dsd (sureD S))) (j6 : σ.loc "longest_text" = some (.int M)) (j7 : σ.loc "codes" = some (.own 0)) (j8 : σ.own = [.lst (done.map fun k => .bytes (kO k))]) (j9 : done.length ≤ n) (j10 : (∀ k ∈ done, (kO k).length ≤ 4)) (j11 : ∀ res, Put S (suf x n) res → Put S x (res.map (done ++ ·)))
inductive JLast (S : Sures) (x : Str) (n : Nat) (σ : St) (o : Out) (σ' : St) : Prop
  | mk (j1 : o = .next) (m : Nat) (j2 : n ≤ m) (j3 : m ≤ x.length) (j4 : σ' = σ.set "end" (.int m)) (j5 : (∀ j, m < j → j ≤ x.length → look S (cut x n j) = none)) (j6 : (m = n ∨ ∃ k, look S (cut x n m) = some k))
inductive JEnd (S : Sures) (x : Str) (n : Nat) (σ : St) (k : Nat) (σ' : St) : Prop
  | mk (m : Nat) (j1 : k = m) (j2 : n ≤ m) (j3 : m ≤ x.length) (j4 : σ' = σ.set "end" (.int m)) (j5 : ∀ j, m < j → j ≤ x.length → look S (cut x n j) = none)
theorem x_octets {Γ : Cx} {C : Addr} (G : GE Γ) (X : G1 Γ.mg Γ.mb Γ.K C) (hlv : 12 ≤ Γ.lv) (sp : Spaces) (al : Chars) (x : Str) (hs : SpOk sp) (ha : ChOk al) (hx : x.length ≤ 100) (L f : Addr) (cd : Value) (E : ExPost) (hE : ExOk (Γ.callee (fnAt 15) L f cd 0) E)
    (hX : ∀ g s e s', ExOct (Γ.callee (fnAt 15) L f cd 0) C (Put (sureL sp al) x none) g s e s' → notedBy (model Γ.prog Γ.w) (Γ.callee (fnAt 15) L f cd 0).A (Γ.callee (fnAt 15) L f cd 0).env (fun e s' => cameBackBy (model Γ.prog Γ.w) (Γ.callee (fnAt 15) L f cd 0).A (Γ.callee (fnAt 15) L f cd 0).env (E g s) e s') e s') :
    WX (Γ.callee (fnAt 15) L f cd 0) E (fnAt 15).body (fun o _ => ∃ ks, Put (sureL sp al) x (some ks) ∧ o = .ret (.bytes (octsAll ks))) ⟨ploc ["cmap", "text"] [cmapD sp (charsD al), .str x], []⟩ := by
  have G' : GE (Γ.callee (fnAt 15) L f cd 0) := G
  have hfew := ha.few
  have hSl := sureL_len (sp := sp) ha
  have hSt := fun y (h : y ∈ sureL sp al) => sure_text_len (sp := sp) ha h
  have hSo := fun t k (h : look (sureL sp al) t = some k) => sure_of h
  have hbody := b_codes_by_text (Γ := Γ.callee (fnAt 15) L f cd 0) (by exact G) (by show 8 ≤ Γ.lv - 1; lia) sp al hs ha
  generalize sureL sp al = S at hSl hSt hSo hbody hX ⊢
  refine WX.cons hE (WS.assign (.inl rfl) (WE.def (i := 14) G' (by decide) k_codes_by_text c_codes_by_text (by show 1 ≤ Γ.lv - 1; lia) rfl (WE.name (d := cmapD sp (charsD al)) (by rfl) ⟨rfl, ?_, _, hbody, ?_⟩)))
  · intro d hd
    simp only [List.mem_cons, List.not_mem_nil, or_false] at hd
    subst hd; intro i q; cases q
  rintro r rfl
  obtain ⟨M, hM, hmax⟩ := exists_max (l := lensOf S) (by simp)
  refine WX.cons hE (WS.assign (.inl rfl) (WE.bu (x := "max") G' (by simp) rfl (WE.binop (WE.list (WE.const_int ⟨?_, by simp [sizeLine_eq], ?_⟩)))))
  · intro d hd
    simp only [List.mem_cons, List.not_mem_nil, or_false] at hd
    subst hd; exact not_own_int
  refine WE.comp (.of rfl rfl) (WE.name (d := dsd (sureD S)) loc_same ?_)
  refine ⟨_, fun i ds ow => ds = (S.take i).map (fun y => D.int ((y.1.length : Nat) : Int)) ∧ ow = [], ItOk.sdct, by rw [List.length_map, List.length_map, sizeLine_eq]; lia, ⟨by simp, rfl⟩, ?_, ?_⟩
  · rintro cl C i e ds ow he ⟨hds, rfl⟩
    rw [List.getElem?_map, List.getElem?_map] at he
    obtain ⟨y', hy', rfl⟩ := Option.map_eq_some_iff.mp he
    obtain ⟨y, hy, rfl⟩ := Option.map_eq_some_iff.mp hy'
    have hyl := hSt y (List.mem_of_getElem? hy)
    refine WAsg.name (.inl rfl) ⟨fun _ => ?_, (by intro q; cases q)⟩
    refine WE.bu (Γ := Cx.comp _ _ cl C) (x := "len") G (by simp) rfl (WE.name loc_same ⟨_, (CallOk.len_str (x := y.1) (by rw [sizeLine_eq]; lia)).here, not_own_int, ?_, rfl⟩)
    rw [take_map_snoc hy, hds]
  rintro ds ow ⟨hds, rfl⟩
  rw [List.length_map, List.length_map, List.take_length] at hds
  subst hds
  refine ⟨_, BinOk.add_lst (by rw [List.length_map, sizeLine_eq]; simp; lia), ⟨.int M, ?_, ?_⟩⟩
  · have := CallOk.max_lst (Γ := Γ.callee (fnAt 15) L f cd 0) hM hmax
    rw [List.map_cons, List.map_map] at this
    exact this.here
  have hM0 : 0 ≤ M := hmax 0 List.mem_cons_self
  have hMl : ∀ y ∈ S, (y.1.length : Int) ≤ M := fun y hy => hmax _ (List.mem_cons_of_mem _ (List.mem_map.mpr ⟨y, hy, rfl⟩))
  have hlook : ∀ t k, look S t = some k → (t.length : Int) ≤ M := fun t k h => by
    obtain ⟨y, hy, e⟩ := List.mem_map.mp (look_isSome.mp (by rw [h]; rfl : (look S t).isSome = true))
    rw [← e]; exact hMl y hy
  have hM2 : M ≤ 2 := by
    rcases List.mem_cons.mp hM with h | h
    · lia
    · obtain ⟨y, hy, e⟩ := List.mem_map.mp h
      have := hSt y hy
      lia
  refine WX.cons hE (WS.assign (.inl rfl) (WE.listOwn ⟨by simp, Nat.zero_le _, ?_⟩))
  refine WX.cons hE (WS.assign (.inl rfl) (WE.const_int ?_))
  refine WX.cons hE (WS.while_ (Ei := ExOct (Γ.callee (fnAt 15) L f cd 0) C (Put S x none)) (ExOct.ok _ _ _) (JTell S x M) x.length ⟨0, [], rfl, Nat.zero_le _, loc_same, ?_, ?_, ?_, ?_, rfl, Nat.zero_le _, by simp, fun res h => ?_⟩ hX ?_)
  · exact loc_ne (loc_ne (loc_mk (loc_ne (loc_mk (loc_ne (by rfl))))))
  · exact loc_ne (loc_ne (loc_mk (loc_ne (loc_mk loc_same))))
  · exact loc_ne (loc_ne (loc_mk loc_same))
  · exact loc_ne loc_same
  · rw [suf_zero] at h
    cases res <;> exact h
  rintro k σ ⟨n, done, rfl, hn, e1, e2, e3, e4, e5, e6, hdl, hd4, hput⟩
  have e1' : ∀ {y : Str} {d : D}, (("place" : Str) == y) = false → (σ.set y d).loc "place" = some (.int n) := fun h => loc_ne e1 h
  refine WT.cmp (WE.name e1 (WE.bu (x := "len") G' (by simp) rfl (WE.name e2 ⟨_, (CallOk.len_str (by rw [sizeLine_eq]; lia)).here, ⟨_, CmpOk.lt_int.here, fun c => ?_, fun c => ?_⟩⟩)))
  · have c := of_decide_eq_true c
    have hnx : n < x.length := by lia
    refine WX.cons (ExOct.ok _ _ _) (WS.assign (.inl rfl) (WE.bu (x := "min") G' (by simp) rfl (WE.bu (x := "len") G' (by simp) rfl (WE.name e2 ⟨_, (CallOk.len_str (by rw [sizeLine_eq]; lia)).here, ?_⟩))))
    refine WE.binop (WE.name e1 (WE.name e4 ⟨_, BinOk.add_int, ⟨_, CallOk.min_two.here, ?_⟩⟩))
    obtain ⟨m0, hm0, hm0n, hm0x, hm0b⟩ : ∃ m0 : Nat, (if (n : Int) + M < (x.length : Nat) then (n : Int) + M else ((x.length : Nat) : Int)) = (m0 : Int) ∧ n ≤ m0 ∧ m0 ≤ x.length ∧ (m0 = x.length ∨ (n : Int) + M = m0) := by
      split
      · exact ⟨n + M.toNat, by lia, by lia, by lia, .inr (by lia)⟩
      · exact ⟨x.length, rfl, by lia, Nat.le_refl _, .inl rfl⟩
    rw [hm0]
    refine WX.cons (ExOct.ok _ _ _) (WS.mono (Q := JLast S x n σ) (WS.while_ (Ei := NoX) (NoX.ok _) (JEnd S x n σ) m0 ⟨m0, rfl, hm0n, hm0x, rfl, fun j h1 h2 => ?_⟩ (fun _ _ _ _ q => q.elim) ?_) ?_)
    · rcases hm0b with h | h
      · lia
      · cases q : look S (cut x n j) with
        | none => rfl
        | some k =>
          have := hlook _ _ q
          rw [cut_len h2] at this
          lia
    · rintro m σ' ⟨_, rfl, hnm, hmx, rfl, hab⟩
      have t1 : ∀ {d : D} {y : Str}, σ.loc y = some d → ((y == ("end" : Str)) = false) → (σ.set "end" (.int m)).loc y = some d := fun h q => loc_ne h q
      refine WT.and_cons (WT.cmp (WE.name loc_same (WE.name (by exact t1 e1 (by decide)) ⟨_, CmpOk.gt_int.here, fun c1 => ?_, fun c1 => ?_⟩)))
      · have c1 := of_decide_eq_true c1
        refine WT.and_cons (WT.cmp (WE.slice (WE.name (d := .str x) (by exact t1 e2 (by decide)) (WE.name (d := .int n) (by exact t1 e1 (by decide)) ⟨_, rfl, WE.name (d := .int m) loc_same ⟨_, rfl, _, SliceOk.str (a := n) (b := m) (by rw [sizeLine_eq]; lia) rfl (.inl rfl) hnm hmx, ?_⟩⟩))))
        refine WE.name (d := dsd (sureD S)) (by exact t1 e3 (by decide)) ⟨_, CmpOk.notin_sdct.here, fun c2 => ?_, fun c2 => ?_⟩
        · have c2 : look S (cut x n m) = none := by
            rw [look_sureD] at c2
            cases q : look S (cut x n m) with
            | none => rfl
            | some x => rw [q] at c2; simp at c2
          refine WT.and_nil ⟨fun _ => ?_, (by intro q; cases q)⟩
          refine WX.cons (NoX.ok _) (WS.assign (.inl rfl) (WE.binop (WE.name loc_same (WE.const_int ⟨_, BinOk.sub_int, WX.nil ?_⟩))))
          refine ⟨m - 1, by lia, m - 1, rfl, by lia, by lia, ?_, fun j h1 h2 => ?_⟩
          · rw [show ((m : Int) - 1) = ((m - 1 : Nat) : Int) from by lia]
            exact set_twice
          · by_cases q : j = m
            · rw [q]; exact c2
            · exact hab j (by lia) h2
        · refine ⟨(by intro q; cases q), fun _ => ⟨rfl, m, hnm, hmx, rfl, hab, .inr ?_⟩⟩
          rw [look_sureD] at c2
          cases q : look S (cut x n m) with
          | none => rw [q] at c2; simp at c2
          | some x => exact ⟨x, rfl⟩
      · have c1 := of_decide_eq_false c1
        exact ⟨(by intro q; cases q), fun _ => ⟨rfl, m, hnm, hmx, rfl, hab, .inl (by lia)⟩⟩
    rintro _ σ' ⟨rfl, m, hnm, hmx, rfl, hab, hcase⟩
    have t1 : ∀ {d : D} {y : Str}, σ.loc y = some d → ((y == ("end" : Str)) = false) → (σ.set "end" (.int m)).loc y = some d := fun h q => loc_ne h q
    refine WX.cons (ExOct.ok _ _ _) (WS.if_ (ExOct.ok _ _ _) (WT.cmp (WE.name loc_same (WE.name (by exact t1 e1 (by decide)) ⟨_, CmpOk.eq_int.here, fun c1 => ?_, fun c1 => ?_⟩))))
    · have c1 := of_decide_eq_true c1
      have hmn : m = n := by lia
      subst hmn
      have hput0 : Put S x none := by
        refine hput none (.stop (by rw [suf_len]; lia) fun j h1 h2 => ?_)
        rw [suf_len] at h2
        have := pre_suf (x := x) (a := m) (b := m + j) (by lia)
        rw [show m + j - m = j from by lia] at this
        rw [this]
        exact hab _ (by lia) (by lia)
      exact WX.cons (ExOct.ok _ _ _) (WS.excMono (WS.raiseFF X.ok rfl X.ff X.keep X.gE X.bE (by show 2 ≤ Γ.lv - 1; lia)) fun g s e s' h => ⟨hput0, h⟩)
    · have c1 := of_decide_eq_false c1
      obtain ⟨K, hK⟩ : ∃ k, look S (cut x n m) = some k := hcase.resolve_left (by lia)
      obtain ⟨hKm, hKt, hKe, hKs⟩ := hSo _ _ hK
      have hbest : Best S (suf x n) (m - n) K := by
        refine ⟨by lia, by rw [suf_len]; lia, by rw [pre_suf hnm]; exact hK, fun j h1 h2 => ?_⟩
        rw [suf_len] at h2
        have := pre_suf (x := x) (a := n) (b := n + j) (by lia)
        rw [show n + j - n = j from by lia] at this
        rw [this]
        exact hab _ (by lia) (by lia)
      obtain ⟨l, cc, hKe2, hl1, hl4, hc0, hcl⟩ := keyOk_of ha hKm
      have hok : KeyOk K := ⟨l, cc, hKe2, hl1, hl4, hc0, hcl⟩
      refine WX.nil ?_
      refine WX.cons (ExOct.ok _ _ _) (WS.assignT (WE.sub (WE.name (d := dsd (sureD S)) (by exact t1 e3 (by decide)) ?_)))
      refine WE.slice (WE.name (d := .str x) (by exact t1 e2 (by decide)) (WE.name (d := .int n) (by exact t1 e1 (by decide)) ⟨_, rfl, WE.name (d := .int m) loc_same ⟨_, rfl, ?_⟩⟩))
      refine ⟨_, SliceOk.str (a := n) (b := m) (by rw [sizeLine_eq]; lia) rfl (.inl rfl) hnm hmx, dkey K, ItemOk.sdct (by rw [look_sureD, hK]; rfl), ?_⟩
      subst hKe2
      refine ⟨_, rfl, rfl, ?_⟩
      refine WAsg.name (.inl rfl) (WAsg.name (.inl rfl) ?_)
      refine WX.cons (ExOct.ok _ _ _) (WS.expr (WE.method mAppend (WE.name (d := .own 0) (by exact loc_ne (loc_ne (t1 e5 (by decide)))) ⟨SelfOk.own (ds := done.map fun k => .bytes (kO k)) (by show σ.own[0]? = _; rw [e6]; rfl), ?_⟩)))
      refine WE.def (i := 8) G' (by decide) k_code_octets c_code_octets (by show 1 ≤ Γ.lv - 1; lia) rfl (WE.name (d := .int l) (by exact loc_ne loc_same) (WE.name (d := .int cc) loc_same ⟨rfl, ?_, _, b_code_octets (by exact G) l cc (by lia) hc0, ?_⟩))
      · intro d hd
        simp only [List.mem_cons, List.not_mem_nil, or_false] at hd
        rcases hd with rfl | rfl <;> exact not_own_int
      rintro r rfl
      refine WCall.append (ds := done.map fun k => .bytes (kO k)) (by show σ.own[0]? = _; rw [e6]; rfl) (by intro i q; cases q) (by rw [List.length_map, sizeLine_eq]; lia) ⟨rfl, ?_⟩
      refine WX.cons (ExOct.ok _ _ _) (WS.assign (.inl rfl) (WE.name (d := .int m) (by exact loc_mk (loc_ne (loc_ne loc_same))) (WX.nil ?_)))
      refine ⟨x.length - m, by lia, m, done ++ [[(l : Int), cc]], rfl, hmx, loc_same, ?_, ?_, ?_, ?_, ?_, ?_, ?_, ?_⟩
      · exact loc_ne (loc_mk (loc_ne (loc_ne (t1 e2 (by decide)))))
      · exact loc_ne (loc_mk (loc_ne (loc_ne (t1 e3 (by decide)))))
      · exact loc_ne (loc_mk (loc_ne (loc_ne (t1 e4 (by decide)))))
      · exact loc_ne (loc_mk (loc_ne (loc_ne (t1 e5 (by decide)))))
      · show σ.own.set 0 _ = _
        rw [e6, List.map_append]; rfl
      · rw [List.length_append]; simp only [List.length_cons, List.length_nil]; lia
      · intro k hk
        rcases List.mem_append.mp hk with h | h
        · exact hd4 k h
        · rw [List.mem_singleton.mp h]; exact (kO_len hok).2
      · intro res h
        have := hput _ (.step hbest (by rw [suf_suf, show n + (m - n) = m from by lia]; exact h))
        cases res with
        | none => exact this
        | some r => simpa using this
  · have c := of_decide_eq_false c
    have hnx : n = x.length := by lia
    subst hnx
    refine WX.freeze 0 (.lst (done.map fun k => .bytes (kO k))) hE (by rw [e6]; rfl) nofun (Nat.le_refl _) ?_
    refine WX.cons hE (WS.ret ?_)
    have hb := CallOk.bjoin (Γ := Γ.callee (fnAt 15) L f cd 0) (kk := done.map kO) (by
      rw [List.map_map]
      have : ∀ l : List (List Int), (∀ k ∈ l, (kO k).length ≤ 4) → (l.map ((·.length) ∘ kO)).sum ≤ 4 * l.length := by
        intro l
        induction l with
        | nil => intro _; simp
        | cons k l ih =>
          intro h
          have h1 := h k List.mem_cons_self
          have h2 := ih fun k hk => h k (List.mem_cons_of_mem _ hk)
          rw [List.map_cons, List.sum_cons, List.length_cons]
          have h3 : ((fun x : List Int => x.length) ∘ kO) k = (kO k).length := rfl
          lia
      have := this done hd4
      lia)
    refine WE.bjoin (kk := done.map kO) (by exact (fz_own e5).trans (by rw [List.map_map]; rfl)) hb ⟨done, ?_, rfl⟩ rfl
    have := hput (some []) (.nil (by rw [suf_len]; lia))
    rw [Option.map_some, List.append_nil] at this
    exact this
end Mine

namespace Mine

theorem raise_cls {Γ : Cx} {C : Addr} {h : Heap} (O : FFOk Γ.K C) (X : Γ.K.In h) {M : Model} {A : Around} {E : Value → Shared → Prop} {s : Shared} {e : Addr} {oe : Obj} {Q : Bool → Shared → Prop} (hs : s.heap = h) (he : s.heap.get? e = some oe) (hc : oe.cls = .ref C) (hq : Q true s) :
    wpAny M A (excMatches (.ref e) (.ref C)) Q E s := by
  obtain ⟨nm, q, N, PE, bs, sn, sub, ab, col, dd, k0, k1, k2, k3, k5, hC⟩ := O.cls
  subst hs
  obtain ⟨hp, gs, d, t, os⟩ := s
  exact wpAny_excMatches_sub_self (X _ _ hC) he hc (by simp) hq

theorem outFr_of {Γ : Cx} {g : Gh} {σ : St} {h : Heap} {outer : List Env} (a : At Γ g σ h) (hf : Γ.env.frame = some Γ.env.locals) (O : OutFr outer h) : OutFr (Γ.env :: outer) h := fun env he => by
  rcases List.mem_cons.mp he with rfl | he
  · obtain ⟨m, ⟨o, es, ep, ho, hd, _⟩, _⟩ := a.loc
    exact ⟨by rw [a.ok.kind]; decide, _, o, hf, ho, fun vs q => by rw [hd] at q; cases q⟩
  · exact O env he

theorem callWith_ty {prog : Program} {w : World} {A : Around} {E : Value → Shared → Prop} {env : Env} {s : Shared} {pos : Pos} {T : String} {e : Expr} {rest : List Expr} {Q : Value → Shared → Prop} (hs : (e :: rest).all notStar = true)
    (h : wpAny (model prog w) A (spliced (backTo pos (starEach (e :: rest) env))) (fun vs s₁ => wpAny (model prog w) A (call (.type T) vs) Q E s₁) E s) :
    wpAny (model prog w) A (callWith pos (.type T) [] (backTo pos (starEach (e :: rest) env)) []) Q E s := by
  refine PySem.callWith_type (backTo_plain _ _ _ hs) ?_
  simp only [List.all_cons, Bool.and_eq_true] at hs
  rw [starEach_cons hs.1] at h ⊢
  exact Calls.evalArgs_plain h

theorem heard_none {Γ : Cx} {C fh : Addr} {σ : St} {Q : D → St → Prop} (G : GE Γ) (X : G1 Γ.mg Γ.mb Γ.K C) (hlv : 15 ≤ Γ.lv) (hfr : Γ.A.frames = some [Γ.env]) (hf : Γ.env.frame = some Γ.env.locals) (sp : Spaces) (al : Chars) (x : Str) (hs : SpOk sp) (ha : ChOk al) (hx : x.length ≤ 100)
    (hfh : Γ.mg (fnAt 27).name = some (.ref fh)) (hput : Put (sureL sp al) x none) (q : Q .none σ) : WCall Γ (.ref fh) [cmapD sp (charsD al), .str x] Q σ := fun g s vs a r => by
  have hd27 : fnAt 27 ∈ Γ.recs := (G.fn 27 (by decide)).1
  obtain ⟨hd15, fo, hfo⟩ := G.fn 15 (by decide)
  obtain ⟨f', o, pm, cd, doc, e1, e2, e3, e4⟩ := a.ok.fn _ hd27
  rw [hfh] at e1; cases e1
  have rr : Reps Γ.toWd s.heap g.z [cmapD sp (charsD al), .str x] vs := r.reps (fun d hd => by
    simp only [List.mem_cons, List.not_mem_nil, or_false] at hd
    rcases hd with rfl | rfl <;> (intro i q; cases q))
  have r' : RepVs Γ.toWd ⟨g.z, []⟩ s.heap [cmapD sp (charsD al), .str x] vs := by
    obtain ⟨v, ws, rfl, r1, v2, ws2, rfl, r2, r3⟩ := rr
    cases r3
    exact ⟨v, _, rfl, RepV.of r1, v2, _, rfl, RepV.of r2, rfl⟩
  have K := k_law_put_heard
  have hvl : vs.length = ["cmap", "line"].length := by rw [rr.length]; rfl
  have hroom : Γ.A.depth < recursionLimit := by have := a.ok.dp; lia
  refine wpAny_call (call_cells hroom (a.keep _ _ e2) e3 (a.ok.lim.keeps a.keep) (e4.keeps a.keep) (K.bind vs hvl pm cd doc) ?_ (fun h₁ tk F Y => ?_) K.co K.gen K.kind)
  · rintro ⟨y, v⟩ hy
    exact .inl (by
      have hp : y ∈ [("cmap" : Str), ("line" : Str)] := (List.of_mem_zip hy).1
      simp only [List.mem_cons, List.not_mem_nil, or_false] at hp
      rcases hp with rfl | rfl <;> rfl)
  have a1 : At (Γ.callee (fnAt 27) s.heap.objs.size fh cd 0) ⟨g.z, []⟩ ⟨ploc ["cmap", "line"] [cmapD sp (charsD al), .str x], []⟩ h₁ := a.enterCall (cd := cd) (f := fh) (pls := []) (owns := []) K (by lia) hvl (cells_nodup c_law_put_heard _) F Y r' rfl (by simp) (by simp) (by simp)
  have nL : s.heap.get? s.heap.objs.size = none := fresh_size _
  generalize hL : s.heap.objs.size = L at *
  have G₁ : GE (Γ.callee (fnAt 27) L fh cd 0) := G
  have O1 : OutFr [Γ.env] h₁ := fun env he => by
    rw [List.mem_singleton.mp he]
    obtain ⟨m, ⟨o, es, ep, ho, hd, _⟩, _⟩ := a.loc
    exact ⟨by rw [a.ok.kind]; decide, _, o, hf, F.keep _ _ ho, fun vs q => by rw [hd] at q; cases q⟩
  refine wpAny_execs_cons (wpAny_Try_except ?_)
  have hfr₁ : (Γ.callee (fnAt 27) L fh cd 0).A.frames = some [(Γ.callee (fnAt 27) L fh cd 0).env, Γ.env] := Around.frames_deeper hfr
  -- the call within
  have inner : ∀ p0 p1 p2 p3, wpAny (model Γ.prog Γ.w) (Γ.callee (fnAt 27) L fh cd 0).A (eval (.Call (.Name "octets_of_text" p0) [.Name "cmap" p1, .Name "line" p2] [] p3) (Γ.callee (fnAt 27) L fh cd 0).env) (fun _ _ => False)
      (fun e s' => ∃ (ea t : Addr) (h' : Heap) (tk' : Nat) (B : Heap), e = .ref ea ∧ s' = { s with heap := h', toks := tk' } ∧ (∀ b o, b ≠ L → b ≠ Γ.env.locals → h₁.get? b = some o → B.get? b = some o) ∧
        (∀ o, h₁.get? Γ.env.locals = some o → (∀ vs, o.data ≠ .fields vs) → ∃ sl, h'.get? Γ.env.locals = some { o with slots := sl }) ∧ Heap.FlyingW B [(Γ.callee (fnAt 27) L fh cd 0).env, Γ.env] ea (.ref C) (.ref t) h') { s with heap := h₁, toks := tk } := by
    intro p0 p1 p2 p3
    obtain ⟨f2, o2, pm2, cd2, doc2, x1, x2, x3, x4⟩ := a1.ok.fn _ hd15
    have hfo' : (Γ.callee (fnAt 27) L fh cd 0).mg "octets_of_text" = some (.ref fo) := hfo
    have x1 : Γ.mg (fnAt 15).name = some (.ref f2) := x1
    rw [hfo] at x1; cases x1
    refine wpAny_Call_NameR (eval_global (s := { s with heap := h₁, toks := tk }) a1 rfl hfo' ?_ (by decide))
    refine Calls.callWith_function (o := o2) (fd := Calls.docDef (fnAt 15).name (fnAt 15).params (fnAt 15).body (fnAt 15).scope pm2 cd2 doc2) (evalArgs_of (s := { s with heap := h₁, toks := tk }) (σ := ⟨ploc ["cmap", "line"] [cmapD sp (charsD al), .str x], []⟩) (Q := fun ds _ => ds = [cmapD sp (charsD al), .str x]) rfl (WE.name (d := cmapD sp (charsD al)) rfl (WE.name (d := .str x) rfl rfl)) a1
      fun g' σ' ds vs' h' tk' t a' r q => ⟨⟨a'.keep _ _ x2, x3⟩, ?_⟩)
    subst q
    have nLal : ∀ b o, b ≠ L → h₁.get? b = some o → h'.get? b = some o := fun b o hb e => t.kp b o (fun m => hb (List.mem_singleton.mp m)) (by simp) e
    have LL : Γ.env.locals ≠ L := fun z => by
      obtain ⟨m, hn, _⟩ := a.loc
      have := ns_live hn
      rw [z, nL] at this; cases this
    have O2 : OutFr [(Γ.callee (fnAt 27) L fh cd 0).env, Γ.env] h' := outFr_of a' rfl (fun env he => by
      obtain ⟨k, L0, o, hfe, e, nf⟩ := O1 env he
      rw [List.mem_singleton.mp he] at hfe
      rw [hf] at hfe; cases hfe
      exact ⟨k, _, o, by rw [List.mem_singleton.mp he]; exact hf, nLal _ o LL e, nf⟩)
    refine wpAny_mono (call_raise (C := C) (P := fun _ _ => False) k_octets_of_text hd15 hfo (by show 1 ≤ Γ.lv - 1; lia) rfl (cells_nodup c_octets_of_text) a' (r.reps (fun d hd => by
      simp only [List.mem_cons, List.not_mem_nil, or_false] at hd
      rcases hd with rfl | rfl <;> (intro i q; cases q))) (fun B L3 f3 cd3 OB hB => ?_) O2) (fun _ _ f => f) fun e s' z => ?_
    · refine WX.mono (x_octets (Γ := { Γ.callee (fnAt 27) L fh cd 0 with base := B }) G X (by show 12 ≤ Γ.lv - 1; lia) sp al x hs ha hx L3 f3 cd3 _ (ExHeld.ok _ _ _) fun g s e s' z => ?_) (fun o σ' q => ?_)
      · exact ExRaw.noted rfl (Around.frames_deeper hfr₁) rfl hB OB g s e s' z.2
      · obtain ⟨ks, hk, _⟩ := q
        have := hk.uniq hput
        cases this
    · obtain ⟨ea, t2, h2, tk2, B, rfl, rfl, kp, up, H⟩ := z
      refine ⟨ea, t2, h2, tk2, B, rfl, rfl, fun b o h1 h2 e => kp b o (fun m => ?_) (nLal b o h1 e), fun o e nf => up _ o (nLal _ o LL e) nf, H⟩
      obtain ⟨env, he, hfe⟩ := List.mem_filterMap.mp m
      simp only [List.mem_cons, List.not_mem_nil, or_false] at he
      rcases he with rfl | rfl
      · exact h1 (Option.some.inj hfe).symm
      · rw [hf] at hfe; exact h2 (Option.some.inj hfe).symm
  refine wpAny_execs_cons (wpAny_Return_some ?_)
  refine wpAny_Call_NameR (eval_builtin (s := { s with heap := h₁, toks := tk }) a1 rfl (G.ty "list" (by simp)).1 (G.ty "list" (by simp)).2 ?_ (by decide))
  refine callWith_ty rfl (wpAny_items_cons (rest := []) (wpAny_mono (inner _ _ _ _) (fun _ _ f => f.elim) fun e s' z => ?_))
  obtain ⟨ea, t, h2, tk2, B, rfl, rfl, kp, up, H⟩ := z
  refine wpAny_looks_onW (s := { s with heap := h2, toks := tk2 }) hfr₁ rfl H fun h4 H4 u4 => ?_
  refine wpAny_landsW (s := { s with heap := h4, toks := tk2 }) H4 fun h5 H5 u5 => ?_
  have kb : ∀ b o, Γ.base.get? b = some o → B.get? b = some o := fun b o e => by
    refine kp b o (fun z => ?_) (fun z => ?_) (F.keep b o (a.keep b o e))
    · have := a.keep b o e; rw [z, nL] at this; cases this
    · rw [z, a.lo _ (.inr a.ok.locMu)] at e; cases e
  have kb5 : ∀ b o, Γ.base.get? b = some o → h5.get? b = some o := fun b o e => H5.1 b o (kb b o e)
  refine wpAny_handleBy_cons (codeAny_handlers_test ?_) (by intro q; cases q)
  refine Calls.Name_function_global rfl rfl ?_ (by decide)
  unfold loadGlobal
  refine wpAny_bind (wpAny_nsGet (a.ok.g.keeps kb5) ?_)
  have hff : Γ.mg (Str.ofString "FontFault") = some (.ref C) := X.ff
  rw [hff]
  refine wpAny_pure ?_
  obtain ⟨ob, hob, hobc⟩ := H5.there
  refine raise_cls (Γ := Γ) X.ok (a.ok.kin.keeps kb5) (s := { s with heap := h5, toks := tk2 }) rfl hob hobc (codeAny_handlers_suite ?_)
  refine lands_againW (s := { s with heap := h5, toks := tk2 }) H5 fun h6 H6 u6 => ?_
  refine wpAny_execs_cons (wpAny_Return_some (wpAny_Constant_none ?_))
  -- the caller's state
  have all : ∀ b o, b ≠ Γ.env.locals → s.heap.get? b = some o → h6.get? b = some o := fun b o hb e => H6.1 b o (kp b o (fun z => by rw [z, nL] at e; cases e) hb (F.keep b o e))
  have ups : s.heap.UpToSlots h6 := fun b o e nf => by
    by_cases z : b = Γ.env.locals
    · subst z
      obtain ⟨sl, e2⟩ := up o (F.keep _ _ e) nf
      exact ((u4.trans u5).trans u6) _ _ e2 nf |>.imp fun sl e => e
    · exact ⟨o.slots, all b o z e⟩
  obtain ⟨a9, t9⟩ := a.slots all ups
  exact ⟨g, σ, .none, h6, tk2, rfl, t9, a9, rfl, q⟩
end Mine

namespace Mine

/-- a try whose body does not raise -/
theorem WS.tryNo {Γ : Cx} {E : ExPost} {σ : St} {body : List Stmt} {h₀ : ExceptHandler} {hs : List ExceptHandler} {pos : Pos} {Q : Out → St → Prop} (h : WX Γ NoX body Q σ) : WS Γ E (.Try body (h₀ :: hs) [] [] pos) Q σ := fun g s a => by
  refine wpAny_Try_except (wpAny_mono (h g s a) (fun f s' p => ?_) fun _ _ x => x.elim)
  obtain ⟨g', σ', o, h', tk, rfl, t, a', fo, q⟩ := p
  cases o with
  | next => have : f = .next := fo; subst this; exact wpAny_execs_nil ⟨g', σ', .next, h', tk, rfl, t, a', rfl, q⟩
  | brk => have : f = .brk := fo; subst this; exact ⟨g', σ', .brk, h', tk, rfl, t, a', rfl, q⟩
  | cont => have : f = .cont := fo; subst this; exact ⟨g', σ', .cont, h', tk, rfl, t, a', rfl, q⟩
  | ret d => obtain ⟨v, rfl, rv⟩ := fo; exact ⟨g', σ', .ret d, h', tk, rfl, t, a', ⟨v, rfl, rv⟩, q⟩

theorem put_bound {sp : Spaces} {al : Chars} (ha : ChOk al) {x : Str} {r : Option (List (List Int))} (h : Put (sureL sp al) x r) : ∀ ks, r = some ks → ks.length ≤ x.length ∧ (∀ k ∈ ks, k ∈ al.map (·.1) ∧ sureB sp k = true) := by
  generalize hS : sureL sp al = S at h
  induction h with
  | nil h => rintro ks ⟨rfl⟩; exact ⟨Nat.zero_le _, by simp⟩
  | stop _ _ => rintro ks q; cases q
  | @step x n k r hb hp ih =>
    intro ks q
    cases r with
    | none => cases q
    | some r =>
      cases q
      obtain ⟨i1, i2⟩ := ih r rfl
      rw [suf_len] at i1
      have := hb.pos
      have := hb.le
      refine ⟨by rw [List.length_cons]; lia, fun j hj => ?_⟩
      rcases List.mem_cons.mp hj with rfl | hj
      · have h1 := hb.at_
        rw [← hS] at h1
        exact ⟨(sure_of h1).1, (sure_of h1).2.2.2⟩
      · exact i2 j hj
theorem octsAll_len {al : Chars} (ha : ChOk al) : ∀ {ks : List (List Int)}, (∀ k ∈ ks, k ∈ al.map (·.1)) → (octsAll ks).length ≤ 4 * ks.length
  | [], _ => by simp [octsAll]
  | k :: ks, h => by
    have h1 := (kO_len (keyOk_of ha (h k List.mem_cons_self))).2
    have h2 := octsAll_len ha (ks := ks) fun k hk => h k (List.mem_cons_of_mem _ hk)
    unfold octsAll at h2 ⊢
    rw [List.map_cons, List.flatten_cons, List.length_append, List.length_cons]; lia

theorem b_heard_some {Γ : Cx} {C : Addr} (G : GE Γ) (X : G1 Γ.mg Γ.mb Γ.K C) (hlv : 15 ≤ Γ.lv) (sp : Spaces) (al : Chars) (x : Str) (ks : List (List Int)) (hs : SpOk sp) (ha : ChOk al) (hx : x.length ≤ 100) (hput : Put (sureL sp al) x (some ks)) :
    Body Γ (fnAt 27) ["cmap", "line"] [cmapD sp (charsD al), .str x] [] (fun r _ => r = putD (some ks)) := by
  intro L f cd
  have G' : GE (Γ.callee (fnAt 27) L f cd 0) := G
  obtain ⟨hb1, hb2⟩ := put_bound ha hput ks rfl
  have hb3 := octsAll_len ha (fun k hk => (hb2 k hk).1)
  refine WX.cons (NoX.ok _) (WS.tryNo (WX.cons (NoX.ok _) (WS.ret (WE.ty (x := "list") G' (by simp) rfl ?_))))
  refine WE.def (i := 15) G' (by decide) k_octets_of_text c_octets_of_text (by show 1 ≤ Γ.lv - 1; lia) rfl (WE.name (d := cmapD sp (charsD al)) (by rfl) (WE.name (d := .str x) (by rfl) ⟨rfl, ?_, (fun r => r = .bytes (octsAll ks)), ?_, ?_⟩))
  · intro d hd
    simp only [List.mem_cons, List.not_mem_nil, or_false] at hd
    rcases hd with rfl | rfl <;> (intro i q; cases q)
  · intro L3 f3 cd3
    refine WX.mono (x_octets (Γ := Γ.callee (fnAt 27) L f cd 0) G X (by show 12 ≤ Γ.lv - 1; lia) sp al x hs ha hx L3 f3 cd3 NoX (NoX.ok _) fun g s e s' z => ?_) (fun o σ' q => ?_)
    · have := z.1.uniq hput
      cases this
    · obtain ⟨ks', h1, rfl⟩ := q
      have := h1.uniq hput
      cases this
      exact ⟨_, rfl, (by intro i q; cases q), rfl⟩
  rintro r rfl
  refine ⟨_, (CallOk.list_bytes (by rw [sizeLine_eq]; lia)).here, ?_⟩
  exact ⟨_, rfl, not_own_lst, rfl⟩

/-- what _law_put_heard answers in the law's frame -/
theorem WE.heard {Γ : Cx} {C : Addr} {σ : St} {Q : D → St → Prop} {px pos : Pos} {args : List Expr} (G : GE Γ) (X : G1 Γ.mg Γ.mb Γ.K C) (hlv : 15 ≤ Γ.lv) (hfr : Γ.A.frames = some [Γ.env]) (hf : Γ.env.frame = some Γ.env.locals) (hk : Γ.env.kindOf "_law_put_heard" = some .globalImplicit)
    (h : WEs Γ args (fun ds σ₁ => ∃ sp al x res, ds = [cmapD sp (charsD al), .str x] ∧ SpOk sp ∧ ChOk al ∧ x.length ≤ 100 ∧ Put (sureL sp al) x res ∧ Q (putD res) σ₁) σ) (hs : args.all notStar = true := by rfl) : WE Γ (.Call (.Name "_law_put_heard" px) args [] pos) Q σ := by
  obtain ⟨hd, fh, hfh⟩ := G.fn 27 (by decide)
  refine WE.call hk hfh rfl hd (WEs.mono h fun ds σ₁ q => ?_) hs (by decide)
  obtain ⟨sp, al, x, res, rfl, h1, h2, h3, h4, q⟩ := q
  cases res with
  | none => exact heard_none G X hlv hfr hf sp al x h1 h2 h3 hfh h4 q
  | some ks =>
    refine WCall.intro k_law_put_heard hd hfh (by lia) rfl (cells_nodup c_law_put_heard) (fun d hd => ?_) (b_heard_some G X hlv sp al x ks h1 h2 h3 h4) fun r ow hr => ?_
    · simp only [List.mem_cons, List.not_mem_nil, or_false] at hd
      rcases hd with rfl | rfl <;> (intro i q; cases q)
    · rw [hr]; exact q

theorem b_identity {Γ : Cx} (G : GE Γ) (hlv : 4 ≤ Γ.lv) : Body Γ (fnAt 16) [] [] [] (fun r _ => r = cmapD [([0, 0], [255, 255])] (charsD [])) := by
  intro L f cd
  have G' : GE (Γ.callee (fnAt 16) L f cd 0) := G
  refine WX.cons (NoX.ok _) (WS.ret (WE.newCMap rfl G'.cls G'.keep ?_ (by simp)))
  refine WE.list (WE.tuple (WE.const_int (WE.const_int (WE.const_int ⟨?_, three_le, ⟨?_, by simp [sizeLine_eq], ?_⟩⟩))))
  · intro d hd
    simp only [List.mem_cons, List.not_mem_nil, or_false] at hd
    rcases hd with rfl | rfl | rfl <;> exact not_own_int
  · intro d hd
    simp only [List.mem_cons, List.not_mem_nil, or_false] at hd
    subst hd; exact not_own_tup
  refine WE.dictF ?_
  refine WCall.cmap G'.cmOk (by show 2 ≤ Γ.lv - 1; lia) not_own_lst (by intro i q; cases q) ⟨_, rfl, (by intro i q; cases q), ?_⟩
  rfl
end Mine

namespace Mine

theorem sureB_iff {sp : Spaces} {k : List Int} : sureB sp k = true ↔ ((∃ s ∈ sp, fit (kO k) s = wide s) ∨ sp = []) ∧ nextLen sp (kO k) = kL k := by
  unfold sureB
  rw [Bool.and_eq_true, Bool.or_eq_true, decide_eq_true_eq, List.any_eq_true, List.isEmpty_iff]
  constructor
  · rintro ⟨h, e⟩
    exact ⟨h.imp (fun ⟨s, hs, hf⟩ => ⟨s, hs, of_decide_eq_true hf⟩) id, e⟩
  · rintro ⟨h, e⟩
    exact ⟨h.imp (fun ⟨s, hs, hf⟩ => ⟨s, hs, decide_eq_true hf⟩) id, e⟩
theorem sure_next {sp : Spaces} {k : List Int} (h : sureB sp k = true) (rest : List Int) : nextLen sp (kO k ++ rest) = kL k := by
  obtain ⟨hf, hn⟩ := sureB_iff.mp h
  have hl : (kO k).length = kL k := octs_len _ _
  rcases hf with ⟨s0, hs0, hf0⟩ | rfl
  · have tk : (kO k ++ rest).take (kL k) = kO k := by rw [← hl]; simp
    have e : ∀ s ∈ sp, wide s ≤ kL k → fit (kO k ++ rest) s = fit (kO k) s := fun s _ hw => by
      have := fitL_take s.1 s.2 (kO k ++ rest) (kL k) hw
      rw [tk] at this; exact this.symm
    have hI := next_is sp (kO k)
    rw [hn] at hI
    refine nextLen_of ?_
    rcases hI with ⟨rfl, _⟩ | ⟨s, hs, f, ew, m⟩ | ⟨_, hno, _⟩
    · exact nomatch hs0
    · refine .inr (.inl ⟨s, hs, by rw [e s hs (by lia)]; exact f, ew, fun s' hs' f' => ?_⟩)
      by_cases q : kL k ≤ wide s'
      · exact q
      · exact m s' hs' (by rw [← e s' hs' (by lia)]; exact f')
    · exact absurd hf0 (hno s0 hs0)
  · have h1 := next_is [] (kO k ++ rest)
    have h2 := next_is [] (kO k)
    rcases h1 with ⟨_, e1⟩ | ⟨s, hs, _⟩ | ⟨hne, _⟩
    · rcases h2 with ⟨_, e2⟩ | ⟨s, hs, _⟩ | ⟨hne, _⟩
      · lia
      · exact nomatch hs
      · exact absurd rfl hne
    · exact nomatch hs
    · exact absurd rfl hne
theorem keyOf_kO {k : List Int} (h : KeyOk k) : keyOf (kO k) = k := by
  obtain ⟨l, c, rfl, h1, h4, h0, hc⟩ := h
  show [((octs l c).length : Int), numB (octs l c)] = _
  rw [octs_len, numB_octs l c h0 hc]
theorem keys_back {sp : Spaces} (hs : SpOk sp) : ∀ {ks : List (List Int)}, (∀ k ∈ ks, KeyOk k ∧ sureB sp k = true) → keysL sp (octsAll ks) = ks
  | [], _ => rfl
  | k :: ks, h => by
    obtain ⟨hk, hsu⟩ := h k List.mem_cons_self
    have ih := keys_back hs (ks := ks) fun k hk => h k (List.mem_cons_of_mem _ hk)
    have hl := kO_len hk
    have hl2 : (kO k).length = kL k := octs_len _ _
    have eo : octsAll (k :: ks) = kO k ++ octsAll ks := by unfold octsAll; rw [List.map_cons, List.flatten_cons]
    have hne : kO k ++ octsAll ks ≠ [] := by
      intro q
      have := congrArg List.length q
      rw [List.length_append, List.length_nil] at this
      lia
    have tk : (kO k ++ octsAll ks).take (nextLen sp (kO k ++ octsAll ks)) = kO k := by rw [sure_next hsu, ← hl2]; simp
    unfold keysL at ih ⊢
    rw [eo, cutL_step hs hne, tk, List.map_cons, keyOf_kO hk]
    have : (kO k ++ octsAll ks).drop (kO k).length = octsAll ks := by simp
    rw [this, ih]
theorem text_back {sp : Spaces} {al : Chars} {x : Str} {r : Option (List (List Int))} (h : Put (sureL sp al) x r) : ∀ ks, r = some ks → joinT (ks.map (textAt al)) = x := by
  generalize hS : sureL sp al = S at h
  induction h with
  | @nil x h =>
    rintro ks ⟨rfl⟩
    refine us_inj ?_
    have : us x = [] := List.length_eq_zero_iff.mp (by rw [us_len]; exact h)
    rw [this]; rfl
  | stop _ _ => rintro ks q; cases q
  | @step x n k r hb hp ih =>
    intro ks q
    cases r with
    | none => cases q
    | some r =>
      cases q
      have i := ih r rfl
      have h1 := hb.at_
      rw [← hS] at h1
      have ht := (sure_of h1).2.1
      refine us_inj ?_
      rw [List.map_cons, joinT_cons, i, ht, us_pre, us_suf, List.take_append_drop]

/-- the map of two octets -/
abbrev idSp : Spaces := [([0, 0], [255, 255])]
theorem idSp_ok : SpOk idSp := by
  refine ⟨by decide, fun s hs => ?_, fun s hs => ?_⟩ <;> rw [List.mem_singleton.mp hs]
  · exact ⟨rfl, by decide, by decide⟩
  · constructor <;> (intro o ho; simp at ho; lia)
theorem next_id {os : List Int} : nextLen idSp os = 2 := by
  rcases next_is idSp os with ⟨h, _⟩ | ⟨s, hs, _, e, _⟩ | ⟨_, _, s, hs, e, _⟩
  · cases h
  · rw [List.mem_singleton.mp hs] at e; exact e
  · rw [List.mem_singleton.mp hs] at e; exact e
def twosL (os : List Int) : List (List Int) := (List.range ((os.length + 1) / 2)).map fun i => (os.drop (2 * i)).take 2
theorem twosL_step {os : List Int} (h : os ≠ []) : twosL os = os.take 2 :: twosL (os.drop 2) := by
  have hl : 0 < os.length := List.length_pos_iff.mpr h
  unfold twosL
  have e : (os.length + 1) / 2 = ((os.drop 2).length + 1) / 2 + 1 := by rw [List.length_drop]; lia
  rw [e, List.range_succ_eq_map, List.map_cons, List.map_map]
  congr 1
  refine List.map_congr_left fun i _ => ?_
  show (os.drop (2 * (i + 1))).take 2 = ((os.drop 2).drop (2 * i)).take 2
  rw [List.drop_drop]; congr 2; lia
theorem cut_id : ∀ (n : Nat) (os : List Int), os.length ≤ n → cutL idSp os = twosL os
  | 0, os, h => by
    have : os = [] := List.length_eq_zero_iff.mp (by lia)
    subst this; rfl
  | n + 1, os, h => by
    by_cases q : os = []
    · subst q; rfl
    · have hl : 0 < os.length := List.length_pos_iff.mpr q
      rw [cutL_step idSp_ok q, next_id, twosL_step q]
      congr 1
      have e : os.drop (os.take 2).length = os.drop 2 := by
        by_cases h2 : 2 ≤ os.length
        · rw [List.length_take, Nat.min_eq_left h2]
        · rw [List.length_take, List.drop_of_length_le (by lia), List.drop_of_length_le (by lia)]
      rw [e]
      exact cut_id n _ (by rw [List.length_drop]; lia)
theorem keys_id (os : List Int) : keysL idSp os = (twosL os).map keyOf := by unfold keysL; rw [cut_id _ _ (Nat.le_refl _)]

theorem keyOf_ok {p : List Int} (h1 : 1 ≤ p.length) (h4 : p.length ≤ 4) (hr : ∀ o ∈ p, 0 ≤ o ∧ o < 256) : KeyOk (keyOf p) :=
  ⟨p.length, numB p, rfl, h1, h4, (numB_nonneg hr).1, (numB_nonneg hr).2⟩
theorem keysL_ok {sp : Spaces} (hs : SpOk sp) {os : List Int} (hr : ∀ o ∈ os, 0 ≤ o ∧ o < 256) {k : List Int} (hk : k ∈ keysL sp os) : KeyOk k := by
  obtain ⟨p, hp, rfl⟩ := List.mem_map.mp hk
  obtain ⟨⟨h1, h4⟩, hsub⟩ := cutL_sub hs _ _ (Nat.le_refl _) p hp
  exact keyOf_ok h1 h4 fun o ho => hr o (hsub o ho)
theorem keyDom_of {k : List Int} (h : KeyOk k) : KeyDom k := by
  obtain ⟨l, c, rfl, h1, h4, h0, hc⟩ := h
  refine ⟨l, c.toNat, by rw [Int.toNat_of_nonneg h0], h1, h4, ?_⟩
  have : (256 : Int) ^ l ≤ 4294967296 := by
    rcases (show l = 1 ∨ l = 2 ∨ l = 3 ∨ l = 4 by lia) with rfl | rfl | rfl | rfl <;> decide
  lia

theorem put_map {al : Chars} {k : List Int} {x : Str} : put (al.map fun y => (y.1, D.str y.2)) k (.str x) = (put al k x).map fun y => (y.1, D.str y.2) := by
  unfold put
  rw [look_map]
  cases q : look al k with
  | none => simp
  | some z =>
    simp only [Option.map_some, Option.isSome_some, if_true, List.map_map]
    refine List.map_congr_left fun y _ => ?_
    by_cases e : y.1 = k <;> simp [e]
theorem put_ok {al : Chars} {k : List Int} {x : Str} (h : ChOk al) (hl : al.length < 16) (hk : KeyOk k) (hx : x.length ≤ 2) : ChOk (put al k x) ∧ (put al k x).length ≤ al.length + 1 := by
  unfold put
  split
  · refine ⟨⟨by rw [List.length_map]; lia, fun y hy => ?_, fun y hy => ?_, ?_⟩, by rw [List.length_map]; lia⟩
    · obtain ⟨z, hz, rfl⟩ := List.mem_map.mp hy
      split
      · exact h.keys z hz
      · exact h.keys z hz
    · obtain ⟨z, hz, rfl⟩ := List.mem_map.mp hy
      split
      · exact hx
      · exact h.txt z hz
    · rw [List.map_map]
      have : ((fun x => x.1) ∘ fun y : List Int × Str => if y.1 = k then (y.1, x) else y) = fun y : List Int × Str => y.1 := by
        funext y; simp only [Function.comp]; split <;> rfl
      rw [this]; exact h.nd
  · rename_i hn
    refine ⟨⟨by rw [List.length_append]; simp; lia, fun y hy => ?_, fun y hy => ?_, ?_⟩, by rw [List.length_append]; simp⟩
    · rcases List.mem_append.mp hy with hy | hy
      · exact h.keys y hy
      · rw [List.mem_singleton.mp hy]; exact hk
    · rcases List.mem_append.mp hy with hy | hy
      · exact h.txt y hy
      · rw [List.mem_singleton.mp hy]; exact hx
    · rw [List.map_append, List.map_singleton]
      refine List.nodup_append.mpr ⟨h.nd, by simp, fun a ha b hb => ?_⟩
      rw [List.mem_singleton.mp hb]
      rintro rfl
      exact hn (look_isSome.mpr ha)
theorem chOk_nil : ChOk [] := ⟨Nat.zero_le _, nofun, nofun, by simp⟩
end Mine

namespace Mine

def LawPost : Out → St → Prop := fun o _ => o = .ret (.bool true)
theorem range_two : ∀ n : Nat, n ≤ 10 → Builtin.Range.rangeSize 0 (n : Int) 2 = (((n + 1) / 2 : Nat) : Int) ∧ Builtin.Range.small 0 (n : Int) 2 = true
  | 0, _ => by decide
  | 1, _ => by decide
  | 2, _ => by decide
  | 3, _ => by decide
  | 4, _ => by decide
  | 5, _ => by decide
  | 6, _ => by decide
  | 7, _ => by decide
  | 8, _ => by decide
  | 9, _ => by decide
  | 10, _ => by decide
  | n + 11, h => by lia
theorem two_ok {os p : List Int} (hor : ∀ o ∈ os, 0 ≤ o ∧ o < 256) (hp : p ∈ twosL os) : p.length ≤ 2 ∧ ∀ o ∈ p, 0 ≤ o ∧ o < 256 := by
  obtain ⟨i, _, rfl⟩ := List.mem_map.mp hp
  exact ⟨by rw [List.length_take]; lia, fun o ho => hor o (List.mem_of_mem_drop (List.mem_of_mem_take ho))⟩
theorem twosL_len (os : List Int) : (twosL os).length = (os.length + 1) / 2 := by simp [twosL]

theorem law_15 {Γ : Cx} (G : GE Γ) (hlv : 20 ≤ Γ.lv) (os : List Int) (hos : os.length ≤ 10) (hor : ∀ o ∈ os, 0 ≤ o ∧ o < 256) (L f : Addr) (cd : Value) (σ : St) (h1 : σ.loc "octets" = some (intsD os)) :
    WX (Γ.callee (fnAt 28) L f cd 0) NoX ((fnAt 28).body.drop 15) LawPost σ := by
  have G' : GE (Γ.callee (fnAt 28) L f cd 0) := G
  obtain ⟨hr1, hr2⟩ := range_two os.length hos
  have htl := twosL_len os
  refine WX.cons (NoX.ok _) (WS.assignComp (.of rfl rfl) (callee_stor (.inl rfl)) (WE.ty (x := "range") G' (by simp) rfl (WE.const_int (WE.bu (x := "len") G' (by simp) rfl (WE.name h1 ⟨_, (CallOk.len_lst (len_map_le (by lia))).here, ?_⟩)))))
  rw [List.length_map]
  refine WE.const_int ⟨.rng 0 os.length 2, (CallOk.range3 (by decide) (pylong_small (by decide) (by decide))).here, ?_⟩
  refine ⟨_, fun i ds ow => ds = ((twosL os).take i).map intsD ∧ ow = σ.own, ItOk.rng (n := (os.length + 1) / 2) hr2 hr1, by rw [List.length_map, rangeInts, List.length_map, List.length_range, sizeLine_eq]; lia, ⟨by simp, rfl⟩, ?_, ?_⟩
  · rintro cl C i e ds ow he ⟨hds, rfl⟩
    have hi : i < (os.length + 1) / 2 := by have := (List.getElem?_eq_some_iff.mp he).1; simpa [rangeInts] using this
    rw [List.getElem?_map, rangeInts_get hi] at he
    cases he
    have hg : (twosL os)[i]? = some ((os.drop (2 * i)).take 2) := by
      unfold twosL
      rw [List.getElem?_map, List.getElem?_range hi]; rfl
    refine WAsg.name (.inl rfl) ⟨fun _ => ?_, (by intro q; cases q)⟩
    refine WE.slice (WE.name (d := intsD os) (by refine cl1 h1 ?_ ?_ <;> rfl) (WE.name loc_same ⟨_, rfl, WE.binop (WE.name loc_same (WE.const_int ⟨_, BinOk.add_int, ⟨_, rfl, ?_⟩⟩))⟩))
    refine ⟨_, slice_ints (a := 2 * i) (b := min (2 * i + 2) os.length) (by lia) ?_ ?_, not_own_lst, ?_, rfl⟩
    · show clipAt os.length (0 + (i : Int) * 2) = _
      rw [show (0 + (i : Int) * 2) = ((2 * i : Nat) : Int) from by lia, clip_nat]; lia
    · show clipAt os.length (0 + (i : Int) * 2 + 2) = _
      rw [show (0 + (i : Int) * 2 + 2) = ((2 * i + 2 : Nat) : Int) from by lia, clip_nat]
    · have : (os.drop (2 * i)).take (min (2 * i + 2) os.length - 2 * i) = (os.drop (2 * i)).take 2 := by rw [List.take_eq_take_iff, List.length_drop]; lia
      rw [take_map_snoc hg, hds, this]
  rintro ds ow ⟨hds, rfl⟩
  have hrl : (rangeInts 0 2 ((os.length + 1) / 2)).length = (os.length + 1) / 2 := by simp [rangeInts]
  rw [List.length_map, hrl, List.take_of_length_le (by lia)] at hds
  subst hds
  refine WX.cons (NoX.ok _) (WS.ret (WE.cmp ?_))
  refine WE.def (i := 11) G' (by decide) k_split_codes c_split_codes (by show 1 ≤ Γ.lv - 1; lia) rfl (WE.def (i := 16) G' (by decide) k_identity_map (by decide) (by show 1 ≤ Γ.lv - 1; lia) rfl ⟨rfl, by simp, _, b_identity (by exact G) (by show 4 ≤ Γ.lv - 1; lia), ?_⟩)
  rintro r rfl
  refine WE.ty (x := "bytes") G' (by simp) rfl (WE.name (d := intsD os) (by exact loc_ne (loc_mk h1)) ⟨_, (CallOk.bytes_lst hor (by rw [sizeLine_eq]; lia)).here, ?_⟩)
  refine ⟨rfl, ?_, _, b_split_codes (by exact G) (by show 6 ≤ Γ.lv - 1; lia) idSp (charsD []) os idSp_ok (by lia) not_own_chars, ?_⟩
  · intro d hd
    simp only [List.mem_cons, List.not_mem_nil, or_false] at hd
    rcases hd with rfl | rfl <;> (intro i q; cases q)
  rintro r rfl
  refine WE.comp (.of rfl rfl) (WE.name (d := .lst ((twosL os).map intsD)) loc_same ?_)
  refine ⟨_, fun i ds ow => ds = ((twosL os).take i).map (fun p => dkey (keyOf p)) ∧ ow = σ.own, ItOk.lst, len_map_le (by lia), ⟨by simp, rfl⟩, ?_, ?_⟩
  · rintro cl C i e ds ow he ⟨hds, rfl⟩
    rw [List.getElem?_map] at he
    obtain ⟨p, hp, rfl⟩ := Option.map_eq_some_iff.mp he
    obtain ⟨hpl, hpr⟩ := two_ok hor (List.mem_of_getElem? hp)
    refine WAsg.name (.inl rfl) ⟨fun _ => ?_, (by intro q; cases q)⟩
    refine WE.tuple (WE.bu (Γ := Cx.comp _ _ cl C) (x := "len") G (by simp) rfl (WE.name loc_same ⟨_, (CallOk.len_lst (len_map_le (by lia))).here, ?_⟩))
    rw [List.length_map]
    refine WE.def (Γ := Cx.comp _ _ cl C) (i := 23) G (by decide) k_law_number c_law_number (by show 1 ≤ Γ.lv - 1; lia) rfl (WE.name loc_same ⟨rfl, ?_, _, b_law_number (by exact G) p ⟨by lia, hpr⟩, ?_⟩)
    · intro d hd
      rw [List.mem_singleton.mp hd]; exact not_own_lst
    rintro r rfl
    refine ⟨?_, two_le, not_own_tup, ?_, rfl⟩
    · intro d hd
      simp only [List.mem_cons, List.not_mem_nil, or_false] at hd
      rcases hd with rfl | rfl <;> exact not_own_int
    · rw [take_map_snoc hp, hds]; rfl
  rintro ds ow ⟨hds, rfl⟩
  rw [List.length_map, List.take_length] at hds
  subst hds
  have eK : (twosL os).map (fun p => dkey (keyOf p)) = ((keysL idSp os)).map dkey := by rw [keys_id, List.map_map]; rfl
  rw [eK]
  refine ⟨_, CmpOk.eq_keys.here, ?_⟩
  show Out.ret _ = Out.ret _
  rw [decide_eq_true rfl]
end Mine

namespace Mine

/-- what the law's frame holds after its map is made -/
structure Held (sp : Spaces) (al : Chars) (os : List Int) (σ : St) : Prop where
  spaces : σ.loc "spaces" = some (.lst (sp.map spl))
  chars : σ.loc "chars" = some (charsD al)
  cmap : σ.loc "cmap" = some (cmapD sp (charsD al))
  before : σ.loc "before" = some (charsD al)
  octets : σ.loc "octets" = some (intsD os)
theorem Held.set {sp : Spaces} {al : Chars} {os : List Int} {σ : St} {x : Str} {d : D} (h : Held sp al os σ) (h1 : (("spaces" : Str) == x) = false := by decide) (h2 : (("chars" : Str) == x) = false := by decide) (h3 : (("cmap" : Str) == x) = false := by decide)
    (h4 : (("before" : Str) == x) = false := by decide) (h5 : (("octets" : Str) == x) = false := by decide) : Held sp al os (σ.set x d) := ⟨loc_ne h.spaces h1, loc_ne h.chars h2, loc_ne h.cmap h3, loc_ne h.before h4, loc_ne h.octets h5⟩
theorem Held.own {sp : Spaces} {al : Chars} {os : List Int} {σ : St} {o : List OO} (h : Held sp al os σ) : Held sp al os ⟨σ.loc, o⟩ := ⟨h.spaces, h.chars, h.cmap, h.before, h.octets⟩
theorem Held.freeze {sp : Spaces} {al : Chars} {os : List Int} {σ : St} {i : Nat} {o : OO} (h : Held sp al os σ) : Held sp al os (σ.freeze i o) :=
  ⟨fz_ne h.spaces not_own_lst, fz_ne h.chars not_own_chars, fz_ne h.cmap (fun i q => by cases q), fz_ne h.before not_own_chars, fz_ne h.octets not_own_lst⟩
theorem own_last {ow : List OO} {x : OO} : (ow ++ [x])[ow.length]? = some x := by simp
theorem own_set_last {ow : List OO} {x y : OO} : (ow ++ [x]).set ow.length y = ow ++ [y] := by simp
theorem str_ne {x : Str} : x ≠ "" ↔ x.length ≠ 0 := by rw [Ne, empty_iff]

theorem law_12 {Γ : Cx} (G : GE Γ) (hlv : 20 ≤ Γ.lv) (sp : Spaces) (al : Chars) (os : List Int) (hs : SpOk sp) (ha : ChOk al) (hos : os.length ≤ 10) (hor : ∀ o ∈ os, 0 ≤ o ∧ o < 256) (L f : Addr) (cd : Value) (σ : St) (H : Held sp al os σ) :
    WX (Γ.callee (fnAt 28) L f cd 0) NoX ((fnAt 28).body.drop 12) LawPost σ := by
  have G' : GE (Γ.callee (fnAt 28) L f cd 0) := G
  have hfew := ha.few
  refine WX.cons (NoX.ok _) (WS.assign (.inl rfl) (WE.dictS ?_))
  refine WX.cons (NoX.ok _) (WS.for_ (WE.bu (x := "sorted") G' (by simp) rfl (WE.name (d := charsD al) (by exact loc_ne H.chars) ⟨_, (CallOk.sorted_chars ha).here, ?_⟩)))
  refine ⟨_, fun i σ' => σ'.own = σ.own ++ [osd (sureD (((srt (al.map (·.1))).take i).foldl (sureStep sp al) []))] ∧ σ'.loc "sure" = some (.own σ.own.length) ∧ Held sp al os σ', ItOk.lst, ⟨rfl, loc_same, (H.own (σ := σ)).set⟩, ?_, ?_⟩
  · rintro i e σ' he ⟨e1, e2, H'⟩
    rw [List.getElem?_map] at he
    obtain ⟨k, hk, rfl⟩ := Option.map_eq_some_iff.mp he
    have hmem : k ∈ al.map (·.1) := srt_mem (List.mem_of_getElem? hk)
    have hil : i < al.length := by have := (List.getElem?_eq_some_iff.mp hk).1; rw [srt_len, List.length_map] at this; exact this
    have hstep := fold_take (f := sureStep sp al) (b := ([] : Sures)) hk
    have hlen := sure_len sp al ((srt (al.map (·.1))).take i) []
    generalize ((srt (al.map (·.1))).take i).foldl (sureStep sp al) [] = acc at e1 hstep hlen
    have hget : σ'.own[σ.own.length]? = some (osd (sureD acc)) := by rw [e1]; exact own_last
    refine WAsg.name (.inl rfl) ?_
    have nope : ¬ (textAt al k ≠ "" ∧ look acc (textAt al k) = none ∧ sureB sp k = true) → (σ'.set "key" (dkey k)).own = σ.own ++ [osd (sureD (((srt (al.map (·.1))).take (i + 1)).foldl (sureStep sp al) []))] ∧ (σ'.set "key" (dkey k)).loc "sure" = some (.own σ.own.length) ∧ Held sp al os (σ'.set "key" (dkey k)) := fun hn => by
      refine ⟨?_, loc_ne e2, H'.set⟩
      show σ'.own = _
      rw [e1, hstep]
      unfold sureStep
      rw [if_neg hn]
    refine WX.cons (NoX.ok _) (WS.if_ (NoX.ok _) (WT.and_cons (WT.value (WE.sub (WE.name (d := charsD al) (by exact loc_ne H'.chars) (WE.name loc_same ⟨_, ItemOk.chars hmem, ⟨_, TruthOk.str (text_pos_str ha k), fun c1 => ?_, fun c1 => ?_⟩⟩))) (by intro _; rfl))))
    · have c1 : textAt al k ≠ "" := str_ne.mpr (of_decide_eq_true c1)
      refine WT.and_cons (WT.cmp (WE.sub (WE.name (d := charsD al) (by exact loc_ne H'.chars) (WE.name loc_same ⟨_, ItemOk.chars hmem, ?_⟩))))
      refine WE.name (by exact loc_ne e2) ⟨_, CmpOkS.notin_own (al := sureD acc) hget, fun c2 => ?_, fun c2 => ?_⟩
      · have c2 : look acc (textAt al k) = none := by
          rw [look_sureD] at c2
          cases q : look acc (textAt al k) with
          | none => rfl
          | some x => rw [q] at c2; simp at c2
        refine WT.and_cons (WT.value (WE.def (i := 25) G' (by decide) k_law_is_sure c_law_is_sure (by show 1 ≤ Γ.lv - 1; lia) rfl ?_) (by intro _; rfl))
        refine WE.name (d := .lst (sp.map spl)) (by exact loc_ne H'.spaces) (WE.name (d := dkey k) loc_same ⟨rfl, ?_, _, b_law_is_sure (by exact G) (by show 4 ≤ Γ.lv - 1; lia) sp k hs (keyOk_of ha hmem), ?_⟩)
        · intro d hd
          simp only [List.mem_cons, List.not_mem_nil, or_false] at hd
          rcases hd with rfl | rfl
          · exact not_own_lst
          · exact not_own_tup
        rintro r rfl
        refine ⟨_, TruthOk.bool, fun c3 => WT.and_nil ⟨fun _ => ?_, (by intro q; cases q)⟩, fun c3 => ⟨(by intro q; cases q), fun _ => WX.nil (WX.nil (nope fun q => by rw [q.2.2] at c3; cases c3))⟩⟩
        refine WX.cons (NoX.ok _) (WS.setItem (WE.name (d := dkey k) loc_same (WE.name (by exact loc_ne e2) (WE.sub (WE.name (d := charsD al) (by exact loc_ne H'.chars) (WE.name loc_same ⟨_, ItemOk.chars hmem, ?_⟩))))))
        refine SetOk.sdct (al := sureD acc) hget not_own_tup (by rw [List.length_map, sizeLine_eq]; rw [List.length_take] at hlen; simp at hlen; lia) (WX.nil (WX.nil ⟨?_, loc_mk (loc_ne e2), H'.set.own⟩))
        show σ'.own.set σ.own.length _ = _
        rw [e1, hstep, own_set_last]
        unfold sureStep
        rw [if_pos ⟨c1, c2, c3⟩]
        have : put (sureD acc) (textAt al k) (dkey k) = sureD (acc ++ [(textAt al k, k)]) := by
          unfold put
          rw [look_sureD, c2]
          simp [sureD]
        rw [this]
      · refine ⟨(by intro q; cases q), fun _ => WX.nil (WX.nil (nope fun q => ?_))⟩
        rw [look_sureD, q.2.1] at c2; cases c2
    · exact ⟨(by intro q; cases q), fun _ => WX.nil (WX.nil (nope fun q => of_decide_eq_false c1 (str_ne.mp q.1)))⟩
  · rintro σ' ⟨e1, e2, H'⟩
    rw [List.length_map, List.take_length] at e1
    refine WX.freeze σ.own.length (osd (sureD (sureL sp al))) (NoX.ok _) (by rw [e1]; exact own_last) nofun (Nat.zero_le _) ?_
    have H2 := H'.freeze (i := σ.own.length) (o := osd (sureD (sureL sp al)))
    refine WX.cons (NoX.ok _) (WS.if_ (NoX.ok _) (WT.or_cons (WT.cmp (WE.def (i := 14) G' (by decide) k_codes_by_text c_codes_by_text (by show 1 ≤ Γ.lv - 1; lia) rfl (WE.name (d := cmapD sp (charsD al)) H2.cmap ⟨rfl, ?_, _, b_codes_by_text (by exact G) (by show 8 ≤ Γ.lv - 1; lia) sp al hs ha, ?_⟩)))))
    · intro d hd
      rw [List.mem_singleton.mp hd]; intro i q; cases q
    rintro r rfl
    refine WE.name (d := dsd (sureD (sureL sp al))) (by exact fz_own e2) ⟨_, CmpOk.ne_sdct_same.here, (by intro q; cases q), fun _ => ?_⟩
    refine WT.or_cons (WT.cmp (WE.attr G'.cmOk (sp := .lst (sp.map spc)) (ch := charsD al) (by exact H2.cmap) (.inr ⟨rfl, rfl⟩) not_own_lst not_own_chars (WE.name H2.before ⟨_, CmpOk.ne_tdct_same.here, (by intro q; cases q), fun _ => WT.or_nil ⟨(by intro q; cases q), fun _ => WX.nil ?_⟩⟩) (by decide) (by with_unfolding_all rfl)))
    exact law_15 G hlv os hos hor L f cd _ H2.octets
end Mine

namespace Mine

theorem joinT_len : ∀ {xs : List Str}, (∀ x ∈ xs, x.length ≤ 2) → (joinT xs).length ≤ 2 * xs.length
  | [], _ => by rw [← us_len, joinT_nil]; simp
  | x :: xs, h => by
    have h1 := h x List.mem_cons_self
    have h2 := joinT_len (xs := xs) fun y hy => h y (List.mem_cons_of_mem _ hy)
    rw [← us_len] at h1 h2 ⊢
    rw [joinT_cons, List.length_append, List.length_cons]; lia
theorem texts_len {al : Chars} (ha : ChOk al) (ks : List (List Int)) : (joinT (ks.map (textAt al))).length ≤ 2 * ks.length := by
  have := joinT_len (xs := ks.map (textAt al)) fun x hx => by
    obtain ⟨k, _, rfl⟩ := List.mem_map.mp hx
    exact textAt_len ha k
  rw [List.length_map] at this; exact this

theorem WS.two {Γ : Cx} {σ : St} {E : ExPost} (hE : ExOk Γ E) {test : Expr} {body : List Stmt} {pos : Pos} {Q : Out → St → Prop} (h : WT Γ test (fun b σ₁ => b = false ∧ Q .next σ₁) σ) : WS Γ E (.If test body [] pos) Q σ :=
  WS.if_ hE (WT.mono h fun b σ₁ q => ⟨fun c => (by rw [q.1] at c; cases c), fun _ => WX.nil q.2⟩)

set_option maxHeartbeats 1000000 in
theorem law_11 {Γ : Cx} {C : Addr} (G : GE Γ) (X : G1 Γ.mg Γ.mb Γ.K C) (hfr : Γ.A.frames = some []) (hlv : 20 ≤ Γ.lv) (sp : Spaces) (al : Chars) (os : List Int) (hs : SpOk sp) (ha : ChOk al) (hos : os.length ≤ 10) (hor : ∀ o ∈ os, 0 ≤ o ∧ o < 256) (L f : Addr) (cd : Value) (σ : St) (H : Held sp al os σ)
    (ln : Str) (hln : ln.length ≤ 20) (h1 : σ.loc "line" = some (.str ln)) (h2 : σ.loc "cut" = some (.lst ((keysL sp os).map dkey))) :
    WX (Γ.callee (fnAt 28) L f cd 0) NoX ((fnAt 28).body.drop 11) LawPost σ := by
  have G' : GE (Γ.callee (fnAt 28) L f cd 0) := G
  have hfew := ha.few
  have hkl := keysL_len hs os
  refine WX.cons (NoX.ok _) (WS.for_ (WE.list (WE.name h1 (WE.method mJoin (WE.const_str ⟨SelfOk.str, ?_⟩)))))
  refine WE.comp (.of rfl rfl) (WE.name h2 ?_)
  refine ⟨_, fun i ds ow => ds = (((keysL sp os).take i).map fun k => D.str (textAt al k)) ∧ ow = σ.own, ItOk.lst, len_map_le (by lia), ⟨by simp, rfl⟩, ?_, ?_⟩
  · rintro cl C i e ds ow he ⟨hds, rfl⟩
    rw [List.getElem?_map] at he
    obtain ⟨k, hk, rfl⟩ := Option.map_eq_some_iff.mp he
    refine WAsg.name (.inl rfl) ⟨fun _ => ?_, fun q => by cases q⟩
    refine WE.method mGet (WE.name (d := charsD al) (by refine cl1 H.chars ?_ ?_ <;> rfl) ⟨SelfOk.tdct, ?_⟩)
    refine WE.name loc_same (WE.const_str (WCall.pure CallOk.get_txt.here ⟨not_own_str, ?_, rfl⟩))
    rw [take_map_snoc hk, hds]
  rintro ds ow ⟨hds, rfl⟩
  rw [List.length_map, List.take_length] at hds
  subst hds
  have htl := texts_len ha (keysL sp os)
  have hj := CallOk.join (Γ := Γ.callee (fnAt 28) L f cd 0) (sep := "") (xs := (keysL sp os).map (textAt al)) (join_fits (fun x hx => by
    obtain ⟨k, _, rfl⟩ := List.mem_map.mp hx
    exact textAt_len ha k) (by rw [List.length_map]; lia))
  rw [List.map_map] at hj
  refine WCall.pure hj.here ⟨?_, two_le, ?_⟩
  · intro d hd
    simp only [List.mem_cons, List.not_mem_nil, or_false] at hd
    rcases hd with rfl | rfl <;> exact not_own_str
  have htext : ∀ (i : Nat) (x : D), ([D.str ln, D.str (joinT ((keysL sp os).map (textAt al)))] : List D)[i]? = some x → ∃ t : Str, x = .str t ∧ t.length ≤ 20 := fun i x h => by
    have := List.mem_of_getElem? h
    simp only [List.mem_cons, List.not_mem_nil, or_false] at this
    rcases this with rfl | rfl
    · exact ⟨ln, rfl, hln⟩
    · exact ⟨_, rfl, by lia⟩
  refine ⟨_, fun i σ' => Held sp al os σ', ItOk.lst, H.own, ?_, fun σ' H' => law_12 G hlv sp al os hs ha hos hor L f cd σ' H'⟩
  rintro i e σ' he H'
  obtain ⟨t, rfl, ht⟩ := htext i e he
  refine WAsg.name (.inl rfl) ?_
  refine WX.cons (NoX.ok _) (WS.assign (.inl rfl) (WE.def (i := 26) G' (by decide) k_law_put c_law_put (by show 1 ≤ Γ.lv - 1; lia) rfl ?_))
  refine WE.name (d := .lst (sp.map spl)) (by exact loc_ne H'.spaces) (WE.name (d := charsD al) (by exact loc_ne H'.chars) (WE.name (d := .str t) loc_same ⟨rfl, ?_, _, b_law_put (by exact G) (by show 8 ≤ Γ.lv - 1; lia) sp al t hs ha (by lia), ?_⟩))
  · intro d hd
    simp only [List.mem_cons, List.not_mem_nil, or_false] at hd
    rcases hd with rfl | rfl | rfl <;> (intro i q; cases q)
  rintro r ⟨res, hput, rfl⟩
  have H2 := (H'.set (x := "text") (d := .str t)).set (x := "put") (d := putD res)
  refine WX.cons (NoX.ok _) (WS.two (NoX.ok _) (WT.or_cons (WT.cmp ?_)))
  refine WE.heard (C := C) G' X (by show 15 ≤ Γ.lv - 1; lia) (Around.frames_deeper hfr) rfl rfl (WE.name (d := cmapD sp (charsD al)) (by exact H2.cmap) (WE.name (d := .str t) (by exact loc_ne loc_same) ⟨sp, al, t, res, rfl, hs, ha, by lia, hput, ?_⟩))
  cases res with
  | none =>
    refine WE.name (d := .none) (by exact loc_same) ⟨_, CmpOk.ne_none.here, (by intro q; cases q), fun _ => ?_⟩
    refine WT.or_cons (WT.and_cons (WT.cmp (WE.name (d := .none) (by exact loc_same) (WE.const_none ⟨_, CmpOk.isnot_none.here, (by intro q; cases q), fun _ => ⟨(by intro q; cases q), fun _ => WT.or_nil ⟨rfl, WX.nil (H2)⟩⟩⟩))))
  | some ks =>
    obtain ⟨hb1, hb2⟩ := put_bound ha hput ks rfl
    have hb3 := octsAll_len ha (fun k hk => (hb2 k hk).1)
    have hback := keys_back hs (ks := ks) fun k hk => ⟨keyOk_of ha (hb2 k hk).1, (hb2 k hk).2⟩
    have htx := text_back hput ks rfl
    have hr : ∀ o ∈ octsAll ks, 0 ≤ o ∧ o < 256 := fun o ho => by
      obtain ⟨l, hl, ho⟩ := List.mem_flatten.mp ho
      obtain ⟨k, _, rfl⟩ := List.mem_map.mp hl
      exact octs_in ho
    refine WE.name (d := intsD (octsAll ks)) (by exact loc_same) ⟨_, CmpOk.ne_ints.here, (fun q => absurd rfl (of_decide_eq_true q)), fun _ => ?_⟩
    refine WT.or_cons ?_
    refine WT.and_cons ?_
    refine WT.cmp ?_
    refine WE.name (d := intsD (octsAll ks)) (by exact loc_same) ?_
    refine WE.const_none ?_
    refine ⟨_, CmpOk.isnot_none.here, fun _ => ?_, fun q => absurd q (by show ¬ (true = false); decide)⟩
    refine WT.and_cons (WT.cmp (WE.def (i := 12) G' (by decide) k_text_of c_text_of (by show 1 ≤ Γ.lv - 1; lia) rfl (WE.name (d := cmapD sp (charsD al)) (by exact H2.cmap) (WE.ty (x := "bytes") G' (by simp) rfl (WE.name (d := intsD (octsAll ks)) (by exact loc_same) ⟨_, (CallOk.bytes_lst hr (by rw [sizeLine_eq]; lia)).here, ?_⟩)))))
    refine ⟨rfl, ?_, _, b_text_of (by exact G) (by show 8 ≤ Γ.lv - 1; lia) sp al _ hs ha (by lia), ?_⟩
    · intro d hd
      simp only [List.mem_cons, List.not_mem_nil, or_false] at hd
      rcases hd with rfl | rfl <;> (intro i q; cases q)
    rintro r rfl
    rw [hback, htx]
    refine WE.name (d := .str t) (by exact loc_ne loc_same) ⟨_, CmpOk.ne_str.here, (fun q => absurd rfl (of_decide_eq_true q)), fun _ => ⟨(by intro q; cases q), fun _ => WT.or_nil ⟨rfl, WX.nil H2⟩⟩⟩
end Mine

namespace Mine

theorem aab_at {d : Int} (h0 : 0 ≤ d) (h3 : d < 3) : ∃ c, (Str.ofString "aab").cps.toList[d.toNat]? = some c := by
  have : d = 0 ∨ d = 1 ∨ d = 2 := by lia
  rcases this with rfl | rfl | rfl
  · exact ⟨97, by decide⟩
  · exact ⟨97, by decide⟩
  · exact ⟨98, by decide⟩
theorem own0_set {ow : List OO} {a b c : OO} (h : ow[0]? = some a) : (ow.set 0 b)[0]? = some b := by
  have := (List.getElem?_eq_some_iff.mp h).1
  simp [this]

inductive JText (ns : List Int) (p1 : Int) (own : List OO) (i : Nat) (ds : List D) (ow : List OO) : Prop
  | mk (cs : List Str) (p2 q2 : Int) (j1 : ds = cs.map .str) (j2 : cs.length = i) (j3 : (∀ c ∈ cs, c.length ≤ 2)) (j4 : ow = own.set 0 (penO ns p2 q2)) (j5 : 0 ≤ p2) (j6 : p2 ≤ p1 + i) (j7 : 0 ≤ q2)
theorem law_10 {Γ : Cx} {C : Addr} (G : GE Γ) (X : G1 Γ.mg Γ.mb Γ.K C) (hfr : Γ.A.frames = some []) (hlv : 20 ≤ Γ.lv) (sp : Spaces) (al : Chars) (os : List Int) (hs : SpOk sp) (ha : ChOk al) (hos : os.length ≤ 10) (hor : ∀ o ∈ os, 0 ≤ o ∧ o < 256) (L f : Addr) (cd : Value) (σ : St) (H : Held sp al os σ)
    (ns : List Int) (p q : Int) (hns : ns.length ≤ 64) (hp0 : 0 ≤ p) (hp : p ≤ 1000) (hq : 0 ≤ q) (h1 : σ.loc "pen" = some (.own 0)) (h3 : σ.own[0]? = some (penO ns p q)) (h2 : σ.loc "cut" = some (.lst ((keysL sp os).map dkey))) :
    WX (Γ.callee (fnAt 28) L f cd 0) NoX ((fnAt 28).body.drop 10) LawPost σ := by
  have G' : GE (Γ.callee (fnAt 28) L f cd 0) := G
  have hlv' : 1 ≤ (Γ.callee (fnAt 28) L f cd 0).lv := by show 1 ≤ Γ.lv - 1; lia
  refine WX.cons (NoX.ok _) (WS.assign (.inl rfl) (WE.method mJoin (WE.const_str ⟨SelfOk.str, ?_⟩)))
  refine WE.comp (.of rfl rfl) (WE.ty (x := "range") G' (by simp) rfl ?_)
  refine WE.draw (ns := ns) G' hlv' rfl hns (WE.name h1 ⟨0, rfl, WE.const_int ⟨6, p, q, rfl, by decide, by decide, h3, hp0, by lia, hq, ?_⟩⟩)
  intro d p1 q1 hd0 hd1 hp10 hp11 hq1
  obtain ⟨n, rfl⟩ := Int.eq_ofNat_of_zero_le hd0
  refine ⟨_, CallOk.range1.here, ?_⟩
  refine ⟨_, JText ns p1 σ.own, ItOk.rng (n := n) (small_nat (by lia)) (rangeSize_nat n), by simp [rangeInts, sizeLine_eq]; lia, ⟨[], p1, q1, rfl, rfl, by simp, rfl, hp10, by lia, hq1⟩, ?_, ?_⟩
  · rintro cl C' i e ds ow he ⟨cs, p2, q2, rfl, hcl, hc2, rfl, h5, h6, h7⟩
    have hi : i < n := by have := (List.getElem?_eq_some_iff.mp he).1; simpa [rangeInts] using this
    rw [List.getElem?_map, rangeInts_get hi] at he
    cases he
    refine WAsg.name (.inl rfl) ⟨fun _ => ?_, fun q => by cases q⟩
    refine WE.sub (WE.const_str ?_)
    refine WE.draw (Γ := Cx.comp _ _ cl C') (ns := ns) G hlv' rfl hns (WE.name (d := .own 0) (by refine cl1 h1 ?_ ?_ <;> rfl) ⟨0, rfl, WE.const_int ⟨3, p2, q2, rfl, by decide, by decide, own0_set (c := .dead) h3, h5, by lia, h7, ?_⟩⟩)
    intro u p5 q5 hu0 hu1 hp50 hp51 hq5
    obtain ⟨c, hc⟩ := aab_at hu0 hu1
    refine ⟨_, ItemOk.str (by decide) hu0 hc, not_own_str, ⟨cs ++ [⟨#[c]⟩], p5, q5, by rw [List.map_append]; rfl, by rw [List.length_append, hcl]; rfl, ?_, ?_, hp50, by lia, hq5⟩⟩
    · intro x hx
      rcases List.mem_append.mp hx with hx | hx
      · exact hc2 x hx
      · rw [List.mem_singleton.mp hx]; exact (by decide : (1 : Nat) ≤ 2)
    · show (σ.own.set 0 (penO ns p2 q2)).set 0 _ = _
      rw [List.set_set]
  rintro ds ow ⟨cs, p2, q2, rfl, hcl, hc2, rfl, h5, h6, h7⟩
  have hrl : ((rangeInts 0 1 n).map D.int).length = n := by simp [rangeInts]
  rw [hrl] at hcl
  have hjl := joinT_len hc2
  have hj := CallOk.join (Γ := Γ.callee (fnAt 28) L f cd 0) (sep := "") (xs := cs) (join_fits hc2 (by lia))
  refine WCall.pure hj.here ?_
  have hlen : (joinT cs).length ≤ 20 := by lia
  exact law_11 G X hfr hlv sp al os hs ha hos hor L f cd _ (H.own.set) (joinT cs) hlen loc_same (loc_ne (loc_mk h2))
end Mine

namespace Mine

set_option maxHeartbeats 1000000 in
theorem law_9 {Γ : Cx} {C : Addr} (G : GE Γ) (X : G1 Γ.mg Γ.mb Γ.K C) (hfr : Γ.A.frames = some []) (hlv : 20 ≤ Γ.lv) (sp : Spaces) (al : Chars) (os : List Int) (hs : SpOk sp) (ha : ChOk al) (hos : os.length ≤ 10) (hor : ∀ o ∈ os, 0 ≤ o ∧ o < 256) (L f : Addr) (cd : Value) (σ : St) (H : Held sp al os σ)
    (ns : List Int) (p q : Int) (hns : ns.length ≤ 64) (hp0 : 0 ≤ p) (hp : p ≤ 1000) (hq : 0 ≤ q) (h1 : σ.loc "pen" = some (.own 0)) (h3 : σ.own[0]? = some (penO ns p q)) (h2 : σ.loc "cut" = some (.lst ((keysL sp os).map dkey))) :
    WX (Γ.callee (fnAt 28) L f cd 0) NoX ((fnAt 28).body.drop 9) LawPost σ := by
  have G' : GE (Γ.callee (fnAt 28) L f cd 0) := G
  have hfew := ha.few
  have hkl := keysL_len hs os
  refine WX.cons (NoX.ok _) (WS.two (NoX.ok _) (WT.or_cons (WT.cmp ?_)))
  refine WE.def (i := 11) G' (by decide) k_split_codes c_split_codes (by show 1 ≤ Γ.lv - 1; lia) rfl (WE.name (d := cmapD sp (charsD al)) H.cmap (WE.ty (x := "bytes") G' (by simp) rfl (WE.name (d := intsD os) H.octets ⟨_, (CallOk.bytes_lst hor (by rw [sizeLine_eq]; lia)).here, ?_⟩)))
  have nown : ∀ d ∈ [cmapD sp (charsD al), .bytes os], ∀ i, d ≠ .own i := fun d hd => by
    simp only [List.mem_cons, List.not_mem_nil, or_false] at hd
    rcases hd with rfl | rfl <;> (intro i q; cases q)
  refine ⟨rfl, nown, _, b_split_codes (by exact G) (by show 6 ≤ Γ.lv - 1; lia) sp (charsD al) os hs (by lia) not_own_chars, ?_⟩
  rintro r rfl
  refine WE.name h2 ⟨_, CmpOk.ne_keys.here, (fun q => absurd rfl (of_decide_eq_true q)), fun _ => ?_⟩
  refine WT.or_cons (WT.cmp ?_)
  refine WE.def (i := 12) G' (by decide) k_text_of c_text_of (by show 1 ≤ Γ.lv - 1; lia) rfl (WE.name (d := cmapD sp (charsD al)) H.cmap (WE.ty (x := "bytes") G' (by simp) rfl (WE.name (d := intsD os) H.octets ⟨_, (CallOk.bytes_lst hor (by rw [sizeLine_eq]; lia)).here, ?_⟩)))
  refine ⟨rfl, nown, _, b_text_of (by exact G) (by show 8 ≤ Γ.lv - 1; lia) sp al os hs ha (by lia), ?_⟩
  rintro r rfl
  refine WE.method mJoin (WE.const_str ⟨SelfOk.str, ?_⟩)
  refine WE.comp (.of rfl rfl) (WE.name h2 ?_)
  refine ⟨_, fun i ds ow => ds = (((keysL sp os).take i).map fun k => D.str (textAt al k)) ∧ ow = σ.own, ItOk.lst, len_map_le (by lia), ⟨by simp, rfl⟩, ?_, ?_⟩
  · rintro cl C i e ds ow he ⟨hds, rfl⟩
    rw [List.getElem?_map] at he
    obtain ⟨k, hk, rfl⟩ := Option.map_eq_some_iff.mp he
    refine WAsg.name (.inl rfl) ⟨fun _ => ?_, fun q => by cases q⟩
    refine WE.method mGet (WE.name (d := charsD al) (by refine cl1 H.chars ?_ ?_ <;> rfl) ⟨SelfOk.tdct, ?_⟩)
    refine WE.name loc_same (WE.const_str (WCall.pure CallOk.get_txt.here ⟨not_own_str, ?_, rfl⟩))
    rw [take_map_snoc hk, hds]
  rintro ds ow ⟨hds, rfl⟩
  rw [List.length_map, List.take_length] at hds
  subst hds
  have hj := CallOk.join (Γ := Γ.callee (fnAt 28) L f cd 0) (sep := "") (xs := (keysL sp os).map (textAt al)) (join_fits (fun x hx => by
    obtain ⟨k, _, rfl⟩ := List.mem_map.mp hx
    exact textAt_len ha k) (by rw [List.length_map]; lia))
  rw [List.map_map] at hj
  refine WCall.pure hj.here ⟨_, CmpOk.ne_str.here, (fun q => absurd rfl (of_decide_eq_true q)), fun _ => WT.or_nil ⟨rfl, ?_⟩⟩
  exact law_10 G X hfr hlv sp al os hs ha hos hor L f cd _ H.own ns p q hns hp0 hp hq h1 h3 h2

theorem law_7 {Γ : Cx} {C : Addr} (G : GE Γ) (X : G1 Γ.mg Γ.mb Γ.K C) (hfr : Γ.A.frames = some []) (hlv : 20 ≤ Γ.lv) (sp : Spaces) (al : Chars) (os : List Int) (hs : SpOk sp) (ha : ChOk al) (hos : os.length ≤ 10) (hor : ∀ o ∈ os, 0 ≤ o ∧ o < 256) (L f : Addr) (cd : Value) (σ : St)
    (ns : List Int) (p q : Int) (hns : ns.length ≤ 64) (hp0 : 0 ≤ p) (hp : p ≤ 1000) (hq : 0 ≤ q) (h1 : σ.loc "pen" = some (.own 0)) (h3 : σ.own = [penO ns p q, otd (al.map fun x => (x.1, .str x.2))]) (h2 : σ.loc "cut" = some (.lst ((keysL sp os).map dkey)))
    (h4 : σ.loc "spaces" = some (.lst (sp.map spl))) (h5 : σ.loc "octets" = some (intsD os)) (h6 : σ.loc "chars" = some (.own 1)) :
    WX (Γ.callee (fnAt 28) L f cd 0) NoX ((fnAt 28).body.drop 7) LawPost σ := by
  have G' : GE (Γ.callee (fnAt 28) L f cd 0) := G
  have hfew := ha.few
  refine WX.freeze 1 (otd (al.map fun x => (x.1, .str x.2))) (NoX.ok _) (by rw [h3]; rfl) nofun (Nat.zero_le _) ?_
  have f6 : (σ.freeze 1 (otd (al.map fun x => (x.1, .str x.2)))).loc "chars" = some (charsD al) := fz_own h6
  have f1 : (σ.freeze 1 (otd (al.map fun x => (x.1, .str x.2)))).loc "pen" = some (.own 0) := by
    unfold St.freeze
    show (σ.loc "pen").map _ = _
    rw [h1]; rfl
  have f2 : (σ.freeze 1 (otd (al.map fun x => (x.1, .str x.2)))).loc "cut" = some (.lst ((keysL sp os).map dkey)) := fz_ne h2 not_own_lst
  have f4 : (σ.freeze 1 (otd (al.map fun x => (x.1, .str x.2)))).loc "spaces" = some (.lst (sp.map spl)) := fz_ne h4 not_own_lst
  have f5 : (σ.freeze 1 (otd (al.map fun x => (x.1, .str x.2)))).loc "octets" = some (intsD os) := fz_ne h5 not_own_lst
  have f3 : (σ.freeze 1 (otd (al.map fun x => (x.1, .str x.2)))).own[0]? = some (penO ns p q) := by
    show (σ.own.set 1 .dead)[0]? = _
    rw [h3]; rfl
  generalize σ.freeze 1 (otd (al.map fun x => (x.1, .str x.2))) = τ at f1 f2 f3 f4 f5 f6
  have hdc := CallOk.dict_copy (Γ := Γ.callee (fnAt 28) L f cd 0) (al := al.map fun x => (x.1, D.str x.2)) (by rw [List.length_map, sizeLine_eq]; lia) (fun x hx => by
    obtain ⟨y, hy, rfl⟩ := List.mem_map.mp hx
    exact keyDom_of (ha.keys y hy))
  refine WX.cons (NoX.ok _) (WS.assign (.inl rfl) (WE.ty (x := "dict") G' (by simp) rfl (WE.name f6 ⟨charsD al, hdc.here, ?_⟩)))
  refine WX.cons (NoX.ok _) (WS.assign (.inl rfl) (WE.newCMap rfl G'.cls G'.keep ?_ (by simp)))
  refine WE.comp (.of rfl rfl) (WE.name (d := .lst (sp.map spl)) (by exact loc_ne f4) ?_)
  have hsf := hs.few
  refine ⟨_, fun i ds ow => ds = (sp.take i).map spc ∧ ow = τ.own, ItOk.lst, len_map_le (by lia), ⟨by simp, rfl⟩, ?_, ?_⟩
  · rintro cl C i e ds ow he ⟨hds, rfl⟩
    rw [List.getElem?_map] at he
    obtain ⟨s, hsi, rfl⟩ := Option.map_eq_some_iff.mp he
    have hm := List.mem_of_getElem? hsi
    have hl := hs.len s hm
    have ho := hs.oct s hm
    refine WAsg.tuple (WAsg.name (.inl rfl) (WAsg.name (.inl rfl) ⟨fun _ => ?_, fun q => by cases q⟩))
    have no1 : ∀ (l : List Int), ∀ d ∈ [intsD l], ∀ i, d ≠ .own i := fun l d hd => by
      rw [List.mem_singleton.mp hd]; exact not_own_lst
    refine WE.tuple (WE.bu (Γ := Cx.comp _ _ cl C) (x := "len") G (by simp) rfl (WE.name (d := intsD s.1) (by exact loc_ne loc_same) ⟨_, (CallOk.len_lst (len_map_le (by lia))).here, ?_⟩))
    rw [List.length_map]
    refine WE.def (Γ := Cx.comp _ _ cl C) (i := 23) G (by decide) k_law_number c_law_number (by show 1 ≤ Γ.lv - 1; lia) rfl (WE.name (d := intsD s.1) (by exact loc_ne loc_same) ⟨rfl, no1 _, _, b_law_number (by exact G) s.1 ⟨by lia, ho.1⟩, ?_⟩)
    rintro r rfl
    refine WE.def (Γ := Cx.comp _ _ cl C) (i := 23) G (by decide) k_law_number c_law_number (by show 1 ≤ Γ.lv - 1; lia) rfl (WE.name (d := intsD s.2) loc_same ⟨rfl, no1 _, _, b_law_number (by exact G) s.2 ⟨by lia, ho.2⟩, ?_⟩)
    rintro r rfl
    refine ⟨?_, three_le, not_own_tup, ?_, rfl⟩
    · intro d hd
      simp only [List.mem_cons, List.not_mem_nil, or_false] at hd
      rcases hd with rfl | rfl | rfl <;> exact not_own_int
    · rw [take_map_snoc hsi, hds]; rfl
  rintro ds ow ⟨hds, rfl⟩
  rw [List.length_map, List.take_length] at hds
  subst hds
  refine WE.name (d := charsD al) (by exact loc_mk (loc_ne f6)) ?_
  refine WCall.cmap G'.cmOk (by show 2 ≤ Γ.lv - 1; lia) not_own_lst not_own_chars ?_
  refine law_9 G X hfr hlv sp al os hs ha hos hor L f cd _ ⟨?_, ?_, ?_, ?_, ?_⟩ ns p q hns hp0 hp hq ?_ ?_ ?_
  · exact loc_ne (loc_mk (loc_ne f4))
  · exact loc_ne (loc_mk (loc_ne f6))
  · exact loc_same
  · exact loc_ne (loc_mk loc_same)
  · exact loc_ne (loc_mk (loc_ne f5))
  · exact loc_ne (loc_mk (loc_ne f1))
  · exact f3
  · exact loc_ne (loc_mk (loc_ne f2))
end Mine

namespace Mine

abbrev chO (al : Chars) : OO := otd (al.map fun x => (x.1, .str x.2))
theorem strs_own {xs : List Str} : ∀ d ∈ xs.map D.str, ∀ i, d ≠ .own i := fun d hd => by
  obtain ⟨x, _, rfl⟩ := List.mem_map.mp hd
  exact not_own_str
theorem ItemOk.pickS {Γ : Cx} {σ : St} {xs : List Str} {d : Int} (h0 : 0 ≤ d) (hd : d < xs.length) (hz : xs.length ≤ 1000) (h2 : ∀ x ∈ xs, x.length ≤ 2) : ∃ t : Str, t.length ≤ 2 ∧ ItemOk Γ σ (.lst (xs.map .str)) (.int d) (.str t) := by
  obtain ⟨t, ht⟩ : ∃ t, xs[d.toNat]? = some t := ⟨_, List.getElem?_eq_getElem (by lia)⟩
  exact ⟨t, h2 t (List.mem_of_getElem? ht), ItemOk.lst h0 (by lia) (by rw [List.getElem?_map, ht]; rfl)⟩

inductive JTurns (ns : List Int) (p : Int) (sp : Spaces) (os : List Int) (i : Nat) (σ' : St) : Prop
  | mk (al' : Chars) (pp qq : Int) (j1 : σ'.own = [penO ns pp qq, chO al']) (j2 : ChOk al') (j3 : al'.length ≤ 6 + i) (j4 : 0 ≤ pp) (j5 : pp ≤ p + 1 + 3 * i) (j6 : 0 ≤ qq) (j7 : σ'.loc "pen" = some (.own 0)) (j8 : σ'.loc "cut" = some (.lst ((keysL sp os).map dkey))) (j9 : σ'.loc "spaces" = some (.lst (sp.map spl))) (j10 : σ'.loc "octets" = some (intsD os)) (j11 : σ'.loc "chars" = some (.own 1))
theorem law_6 {Γ : Cx} {C : Addr} (G : GE Γ) (X : G1 Γ.mg Γ.mb Γ.K C) (hfr : Γ.A.frames = some []) (hlv : 20 ≤ Γ.lv) (sp : Spaces) (al : Chars) (os : List Int) (hs : SpOk sp) (ha : ChOk al) (hal : al.length ≤ 6) (hos : os.length ≤ 10) (hor : ∀ o ∈ os, 0 ≤ o ∧ o < 256) (L f : Addr) (cd : Value) (σ : St)
    (ns : List Int) (p q : Int) (hns : ns.length ≤ 64) (hp0 : 0 ≤ p) (hp : p ≤ 900) (hq : 0 ≤ q) (h1 : σ.loc "pen" = some (.own 0)) (h3 : σ.own = [penO ns p q, chO al]) (h2 : σ.loc "cut" = some (.lst ((keysL sp os).map dkey)))
    (h4 : σ.loc "spaces" = some (.lst (sp.map spl))) (h5 : σ.loc "octets" = some (intsD os)) (h6 : σ.loc "chars" = some (.own 1)) :
    WX (Γ.callee (fnAt 28) L f cd 0) NoX ((fnAt 28).body.drop 6) LawPost σ := by
  have G' : GE (Γ.callee (fnAt 28) L f cd 0) := G
  have hlv' : 1 ≤ (Γ.callee (fnAt 28) L f cd 0).lv := by show 1 ≤ Γ.lv - 1; lia
  refine WX.cons (NoX.ok _) (WS.for_ (WE.ty (x := "range") G' (by simp) rfl ?_))
  refine WE.draw (ns := ns) G' hlv' rfl hns (WE.name h1 ⟨0, rfl, WE.const_int ⟨3, p, q, rfl, by decide, by decide, by rw [h3]; rfl, hp0, by lia, hq, ?_⟩⟩)
  intro d p1 q1 hd0 hd1 hp10 hp11 hq1
  obtain ⟨n, rfl⟩ := Int.eq_ofNat_of_zero_le hd0
  refine ⟨_, CallOk.range1.here, _, JTurns ns p sp os,
    ItOk.rng (n := n) (small_nat (by lia)) (rangeSize_nat n), ⟨al, p1, q1, by show σ.own.set 0 _ = _; rw [h3]; rfl, ha, by lia, hp10, by lia, hq1, h1, h2, h4, h5, h6⟩, ?_, ?_⟩
  · rintro i e σ' he ⟨al', pp, qq, e1, ha', hal', hpp0, hpp, hqq, l1, l2, l4, l5, l6⟩
    have hi : i < n := by have := (List.getElem?_eq_some_iff.mp he).1; simpa [rangeInts] using this
    refine WAsg.name (.inl rfl) ?_
    refine WX.cons (NoX.ok _) (WS.assign (.inl rfl) (WE.binop (WE.const_int ?_)))
    refine WE.draw (ns := ns) G' hlv' rfl hns (WE.name (by exact loc_ne l1) ⟨0, rfl, WE.const_int ⟨2, pp, qq, rfl, by decide, by decide, by show σ'.own[0]? = _; rw [e1]; rfl, hpp0, by lia, hqq, ?_⟩⟩)
    intro v p2 q2 hv0 hv1 hp20 hp21 hq2
    obtain ⟨l, rfl⟩ := Int.eq_ofNat_of_zero_le hv0
    have hl2 : l < 2 := by lia
    refine ⟨_, BinOk.add_int, ?_⟩
    rw [show (1 : Int) + (l : Int) = ((l + 1 : Nat) : Int) from by lia]
    have e2 : σ'.own.set 0 (penO ns p2 q2) = [penO ns p2 q2, chO al'] := by rw [e1]; rfl
    refine WX.cons (NoX.ok _) (WS.setItem (WE.sub (WE.list (WE.const_str (WE.const_str (WE.const_str ⟨strs_own (xs := ["a", "b", "c"]), three_le, ?_⟩))))))
    refine WE.draw (ns := ns) G' hlv' rfl hns (WE.name (by exact loc_ne (loc_mk (loc_ne l1))) ⟨0, rfl, WE.const_int ⟨3, p2, q2, rfl, by decide, by decide, by show (σ'.own.set 0 (penO ns p2 q2))[0]? = _; rw [e2]; rfl, hp20, by lia, hq2, ?_⟩⟩)
    intro u p3 q3 hu0 hu1 hp30 hp31 hq3
    obtain ⟨t, ht2, hitem⟩ := ItemOk.pickS (Γ := Γ.callee (fnAt 28) L f cd 0) (σ := St.mk (St.set (St.mk (St.set σ' "turn" e).loc (σ'.own.set 0 (penO ns p2 q2))) "length" (.int ((l + 1 : Nat) : Int))).loc ((σ'.own.set 0 (penO ns p2 q2)).set 0 (penO ns p3 q3))) (xs := ["a", "b", "c"]) hu0 (by exact hu1) (by decide) (by decide)
    have e3 : (σ'.own.set 0 (penO ns p2 q2)).set 0 (penO ns p3 q3) = [penO ns p3 q3, chO al'] := by rw [e2]; rfl
    refine ⟨_, hitem, ?_⟩
    refine WE.name (d := .own 1) (by exact loc_mk (loc_ne (loc_mk (loc_ne l6)))) (WE.tuple (WE.name (d := .int ((l + 1 : Nat) : Int)) (by exact loc_mk loc_same) ?_))
    have hpw : (256 : Int) ^ (l + 1) ≤ 65536 ∧ 1 ≤ (256 : Int) ^ (l + 1) := by
      have : l = 0 ∨ l = 1 := by lia
      rcases this with rfl | rfl <;> decide
    refine WE.draw (ns := ns) G' hlv' rfl hns (WE.name (by exact loc_mk (loc_ne (loc_mk (loc_ne l1)))) ⟨0, rfl, WE.binop (WE.const_int (WE.name (d := .int ((l + 1 : Nat) : Int)) (by exact loc_mk loc_same) ⟨_, BinOk.pow_int (by lia) (by lia) (by decide), ?_⟩))⟩)
    have hpe : (256 : Int) ^ (((l + 1 : Nat) : Int)).toNat = (256 : Int) ^ (l + 1) := rfl
    rw [hpe]
    refine ⟨(256 : Int) ^ (l + 1), p3, q3, rfl, hpw.2, hpw.1, by show ((σ'.own.set 0 (penO ns p2 q2)).set 0 (penO ns p3 q3))[0]? = _; rw [e3]; rfl, hp30, by lia, hq3, ?_⟩
    intro c p4 q4 hc0 hc1 hp40 hp41 hq4
    have hkey : KeyOk [((l + 1 : Nat) : Int), c] := ⟨l + 1, c, rfl, by lia, by lia, hc0, hc1⟩
    have e4 : ((σ'.own.set 0 (penO ns p2 q2)).set 0 (penO ns p3 q3)).set 0 (penO ns p4 q4) = [penO ns p4 q4, chO al'] := by rw [e3]; rfl
    obtain ⟨hpo, hpl⟩ := put_ok (k := [((l + 1 : Nat) : Int), c]) (x := t) ha' (by lia) hkey ht2
    refine ⟨?_, two_le, ?_⟩
    · intro d hd
      simp only [List.mem_cons, List.not_mem_nil, or_false] at hd
      rcases hd with rfl | rfl <;> exact not_own_int
    refine SetOk.tdct (al := al'.map fun x => (x.1, .str x.2)) (k := [((l + 1 : Nat) : Int), c]) (by show (((σ'.own.set 0 (penO ns p2 q2)).set 0 (penO ns p3 q3)).set 0 (penO ns p4 q4))[1]? = _; rw [e4]; rfl) not_own_str (by rw [List.length_map, sizeLine_eq]; lia) (WX.nil ⟨put al' [((l + 1 : Nat) : Int), c] t, p4, q4, ?_, hpo, by lia, hp40, by lia, hq4, ?_, ?_, ?_, ?_, ?_⟩)
    · show (((σ'.own.set 0 (penO ns p2 q2)).set 0 (penO ns p3 q3)).set 0 (penO ns p4 q4)).set 1 _ = _
      rw [e4, put_map]; rfl
    · exact loc_mk (loc_mk (loc_mk (loc_ne (loc_mk (loc_ne l1)))))
    · exact loc_mk (loc_mk (loc_mk (loc_ne (loc_mk (loc_ne l2)))))
    · exact loc_mk (loc_mk (loc_mk (loc_ne (loc_mk (loc_ne l4)))))
    · exact loc_mk (loc_mk (loc_mk (loc_ne (loc_mk (loc_ne l5)))))
    · exact loc_mk (loc_mk (loc_mk (loc_ne (loc_mk (loc_ne l6)))))
  · rintro σ' ⟨al', pp, qq, e1, ha', hal', hpp0, hpp, hqq, l1, l2, l4, l5, l6⟩
    have hrl : ((rangeInts 0 1 n).map D.int).length = n := by simp [rangeInts]
    rw [hrl] at hpp
    exact law_7 G X hfr hlv sp al' os hs ha' hos hor L f cd σ' ns pp qq hns hpp0 (by lia) hqq l1 e1 l2 l4 l5 l6
end Mine

namespace Mine

inductive JKeys (ns : List Int) (p : Int) (sp : Spaces) (os : List Int) (i : Nat) (σ' : St) : Prop
  | mk (al' : Chars) (pp qq : Int) (j1 : σ'.own = [penO ns pp qq, chO al']) (j2 : ChOk al') (j3 : al'.length ≤ i) (j4 : 0 ≤ pp) (j5 : pp ≤ p + 2 * i) (j6 : 0 ≤ qq) (j7 : σ'.loc "pen" = some (.own 0)) (j8 : σ'.loc "cut" = some (.lst ((keysL sp os).map dkey))) (j9 : σ'.loc "spaces" = some (.lst (sp.map spl))) (j10 : σ'.loc "octets" = some (intsD os)) (j11 : σ'.loc "chars" = some (.own 1))
theorem law_5 {Γ : Cx} {C : Addr} (G : GE Γ) (X : G1 Γ.mg Γ.mb Γ.K C) (hfr : Γ.A.frames = some []) (hlv : 20 ≤ Γ.lv) (sp : Spaces) (os : List Int) (hs : SpOk sp) (hos : os.length ≤ 10) (hor : ∀ o ∈ os, 0 ≤ o ∧ o < 256) (L f : Addr) (cd : Value) (σ : St)
    (ns : List Int) (p q : Int) (hns : ns.length ≤ 64) (hp0 : 0 ≤ p) (hp : p ≤ 800) (hq : 0 ≤ q) (h1 : σ.loc "pen" = some (.own 0)) (h3 : σ.own = [penO ns p q, chO []]) (h2 : σ.loc "cut" = some (.lst ((keysL sp os).map dkey)))
    (h4 : σ.loc "spaces" = some (.lst (sp.map spl))) (h5 : σ.loc "octets" = some (intsD os)) (h6 : σ.loc "chars" = some (.own 1)) :
    WX (Γ.callee (fnAt 28) L f cd 0) NoX ((fnAt 28).body.drop 5) LawPost σ := by
  have G' : GE (Γ.callee (fnAt 28) L f cd 0) := G
  have hlv' : 1 ≤ (Γ.callee (fnAt 28) L f cd 0).lv := by show 1 ≤ Γ.lv - 1; lia
  have hkl := keysL_len hs os
  refine WX.cons (NoX.ok _) (WS.for_ (WE.slice (WE.name h2 (WE.const_int ⟨_, rfl, ⟨_, SliceOk.list (len_map_le (by lia)), ?_⟩⟩))))
  have hcl : clipAt ((keysL sp os).map dkey).length 6 = min 6 ((keysL sp os).map dkey).length := clip_nat (k := 6)
  have hmem : ∀ (i : Nat) (e : D), ((((keysL sp os).map dkey).drop 0).take (clipAt ((keysL sp os).map dkey).length 6 - 0))[i]? = some e → i < 6 ∧ ∃ k, KeyOk k ∧ e = dkey k := fun i e he => by
    have h := (List.getElem?_eq_some_iff.mp he).1
    rw [List.length_take, hcl] at h
    have hm := List.mem_of_mem_drop (List.mem_of_mem_take (List.mem_of_getElem? he))
    obtain ⟨k, hk, rfl⟩ := List.mem_map.mp hm
    exact ⟨by lia, k, keysL_ok hs hor hk, rfl⟩
  have hlen : ((((keysL sp os).map dkey).drop 0).take (clipAt ((keysL sp os).map dkey).length 6 - 0)).length ≤ 6 := by rw [List.length_take, hcl]; lia
  refine ⟨(((keysL sp os).map dkey).drop 0).take (clipAt ((keysL sp os).map dkey).length 6 - 0), JKeys ns p sp os,
    ItOk.lst, ⟨[], p, q, h3, chOk_nil, Nat.le_refl _, hp0, by lia, hq, h1, h2, h4, h5, h6⟩, ?_, ?_⟩
  · rintro i e σ' he ⟨al', pp, qq, e1, ha', hal', hpp0, hpp, hqq, l1, l2, l4, l5, l6⟩
    obtain ⟨hi, k, hkey, rfl⟩ := hmem i e he
    refine WAsg.name (.inl rfl) ?_
    refine WX.cons (NoX.ok _) (WS.if_ (NoX.ok _) (WT.cmp ?_))
    refine WE.draw (ns := ns) G' hlv' rfl hns (WE.name (by exact loc_ne l1) ⟨0, rfl, WE.const_int ⟨4, pp, qq, rfl, by decide, by decide, by show σ'.own[0]? = _; rw [e1]; rfl, hpp0, by lia, hqq, ?_⟩⟩)
    intro v p2 q2 hv0 hv1 hp20 hp21 hq2
    have e2 : σ'.own.set 0 (penO ns p2 q2) = [penO ns p2 q2, chO al'] := by rw [e1]; rfl
    refine WE.const_int ⟨_, CmpOk.gt_int.here, fun c => ?_, fun c => ?_⟩
    · refine WX.cons (NoX.ok _) (WS.setItem (WE.sub (WE.list (WE.const_str (WE.const_str (WE.const_str (WE.const_str (WE.const_str ⟨strs_own (xs := ["a", "b", "ab", "ba", ""]), five_le, ?_⟩))))))))
      refine WE.draw (ns := ns) G' hlv' rfl hns (WE.name (by exact loc_mk (loc_ne l1)) ⟨0, rfl, WE.const_int ⟨5, p2, q2, rfl, by decide, by decide, by show (σ'.own.set 0 (penO ns p2 q2))[0]? = _; rw [e2]; rfl, hp20, by lia, hq2, ?_⟩⟩)
      intro u p3 q3 hu0 hu1 hp30 hp31 hq3
      obtain ⟨t, ht2, hitem⟩ := ItemOk.pickS (Γ := Γ.callee (fnAt 28) L f cd 0) (σ := St.mk (St.set σ' "key" (dkey k)).loc ((σ'.own.set 0 (penO ns p2 q2)).set 0 (penO ns p3 q3))) (xs := ["a", "b", "ab", "ba", ""]) hu0 (by exact hu1) (by decide) (by decide)
      have e3 : (σ'.own.set 0 (penO ns p2 q2)).set 0 (penO ns p3 q3) = [penO ns p3 q3, chO al'] := by rw [e2]; rfl
      refine ⟨_, hitem, ?_⟩
      obtain ⟨hpo, hpl⟩ := put_ok (k := k) (x := t) ha' (by lia) hkey ht2
      refine WE.name (d := .own 1) (by exact loc_mk (loc_mk (loc_ne l6))) (WE.name (d := dkey k) (by exact loc_mk (loc_mk loc_same)) ?_)
      refine SetOk.tdct (al := al'.map fun x => (x.1, .str x.2)) (k := k) (by show ((σ'.own.set 0 (penO ns p2 q2)).set 0 (penO ns p3 q3))[1]? = _; rw [e3]; rfl) not_own_str (by rw [List.length_map, sizeLine_eq]; lia) (WX.nil (WX.nil ⟨put al' k t, p3, q3, ?_, hpo, by lia, hp30, by lia, hq3, ?_, ?_, ?_, ?_, ?_⟩))
      · show ((σ'.own.set 0 (penO ns p2 q2)).set 0 (penO ns p3 q3)).set 1 _ = _
        rw [e3, put_map]; rfl
      · exact loc_mk (loc_mk (loc_mk (loc_ne l1)))
      · exact loc_mk (loc_mk (loc_mk (loc_ne l2)))
      · exact loc_mk (loc_mk (loc_mk (loc_ne l4)))
      · exact loc_mk (loc_mk (loc_mk (loc_ne l5)))
      · exact loc_mk (loc_mk (loc_mk (loc_ne l6)))
    · exact WX.nil (WX.nil ⟨al', p2, q2, e2, ha', by lia, hp20, by lia, hq2, loc_mk (loc_ne l1), loc_mk (loc_ne l2), loc_mk (loc_ne l4), loc_mk (loc_ne l5), loc_mk (loc_ne l6)⟩)
  · rintro σ' ⟨al', pp, qq, e1, ha', hal', hpp0, hpp, hqq, l1, l2, l4, l5, l6⟩
    exact law_6 G X hfr hlv sp al' os hs ha' (by lia) hos hor L f cd σ' ns pp qq hns hpp0 (by lia) hqq l1 e1 l2 l4 l5 l6

theorem law_0 {Γ : Cx} {C : Addr} (G : GE Γ) (X : G1 Γ.mg Γ.mb Γ.K C) (hfr : Γ.A.frames = some []) (hlv : 20 ≤ Γ.lv) (xs : List Int) (hxs : xs.length ≤ 63) (L f : Addr) (cd : Value) :
    WX (Γ.callee (fnAt 28) L f cd 0) NoX (fnAt 28).body LawPost ⟨ploc ["script"] [intsD xs], []⟩ := by
  have G' : GE (Γ.callee (fnAt 28) L f cd 0) := G
  have hlv' : 1 ≤ (Γ.callee (fnAt 28) L f cd 0).lv := by show 1 ≤ Γ.lv - 1; lia
  refine WX.cons (NoX.ok _) (WS.assign (callee_stor (.inr rfl)) (WE.listOwn ?_))
  refine WE.comp (.of rfl rfl) (WE.slice (WE.name (d := intsD xs) (by rfl) (WE.const_int ⟨_, rfl, ⟨_, slice_ints (a := 0) (b := min 40 xs.length) (by lia) rfl (clip_nat (k := 40)), ?_⟩⟩)))
  rw [List.drop_zero, Nat.sub_zero]
  have hnl : (xs.take (min 40 xs.length)).length ≤ 64 := by rw [List.length_take]; lia
  generalize xs.take (min 40 xs.length) = ns at hnl
  refine ⟨_, fun i ds ow => ds = (ns.take i).map D.int ∧ ow = [], ItOk.lst, len_map_le (by lia), ⟨by simp, rfl⟩, ?_, ?_⟩
  · rintro cl C i e ds ow he ⟨hds, rfl⟩
    rw [List.getElem?_map] at he
    obtain ⟨v, hv, rfl⟩ := Option.map_eq_some_iff.mp he
    refine WAsg.name (.inl rfl) ⟨fun _ => ?_, fun q => by cases q⟩
    refine WE.ty (Γ := Cx.comp _ _ cl C) (x := "int") G (by simp) rfl (WE.name loc_same ⟨_, CallOk.int_int.here, not_own_int, ?_, rfl⟩)
    rw [take_map_snoc hv, hds]
  rintro ds ow ⟨hds, rfl⟩
  rw [List.length_map, List.take_length] at hds
  subst hds
  refine WE.const_int (WE.const_int ⟨?_, three_le, ?_⟩)
  · intro d hd
    simp only [List.mem_cons, List.not_mem_nil, or_false] at hd
    rcases hd with rfl | rfl | rfl <;> (intro i q; cases q)
  refine WX.cons (NoX.ok _) (WS.assign (.inl rfl) (WE.def1 (i := 19) G' (by decide) k_law_spaces c_law_spaces hlv' rfl (WE.name (d := .own 0) (by exact loc_same) ⟨0, penO ns 0 0, [], rfl, rfl, by simp, rfl, _, b_law_spaces (by exact G) (by show 2 ≤ Γ.lv - 1; lia) ns 0 0 hnl (by decide) (by decide) (by decide), ?_⟩)))
  rintro r o' ⟨sp, p1, q1, rfl, hs, hs4, rfl, hp10, hp11, hq1⟩
  refine WX.cons (NoX.ok _) (WS.assign (callee_stor (.inr rfl)) (WE.def1 (i := 20) G' (by decide) k_law_octets c_law_octets hlv' rfl (WE.name (d := .own 0) (by exact loc_ne (loc_mk loc_same)) (WE.name (d := .lst (sp.map spl)) (by exact loc_same) ⟨0, penO ns p1 q1, [.lst (sp.map spl)], rfl, rfl, ?_, rfl, _, b_law_octets (by exact G) (by show 2 ≤ Γ.lv - 1; lia) ns p1 q1 sp hs hnl hp10 (by lia) hq1, ?_⟩))))
  · intro d hd
    rw [List.mem_singleton.mp hd]; exact not_own_lst
  rintro r o' ⟨os, p2, q2, rfl, hos, hor, rfl, hp20, hp21, hq2⟩
  refine WX.cons (NoX.ok _) (WS.assign (.inl rfl) (WE.def (i := 24) G' (by decide) k_law_cut c_law_cut hlv' rfl (WE.name (d := .lst (sp.map spl)) (by exact loc_ne (loc_mk loc_same)) (WE.name (d := intsD os) (by exact loc_same) ⟨rfl, ?_, _, b_law_cut (by exact G) (by show 6 ≤ Γ.lv - 1; lia) sp os hs (by lia) hor, ?_⟩))))
  · intro d hd
    simp only [List.mem_cons, List.not_mem_nil, or_false] at hd
    rcases hd with rfl | rfl <;> exact not_own_lst
  rintro r rfl
  refine WX.cons (NoX.ok _) (WS.assign (callee_stor (.inr rfl)) (WE.dictT ?_))
  refine law_5 G X hfr hlv sp os hs hos hor L f cd _ ns p2 q2 hnl hp20 (by lia) hq2 ?_ ?_ ?_ ?_ ?_ ?_
  · exact loc_ne (loc_mk (loc_ne (loc_ne (loc_mk (loc_ne (loc_mk loc_same))))))
  · rfl
  · exact loc_ne (loc_mk loc_same)
  · exact loc_ne (loc_mk (loc_ne (loc_ne (loc_mk loc_same))))
  · exact loc_ne (loc_mk (loc_ne loc_same))
  · exact loc_same
end Mine

namespace Mine

/-- the statements that the head's view keeps -/
def lawView : Program := { PySem.Challenge.pw_nn0194_01 with main := { PySem.Challenge.pw_nn0194_01.main with body := [0, 2, 3, 5, 6, 7, 8, 9, 10, 11, 12, 13, 14, 15, 16, 18, 19, 20, 21, 22, 23, 24, 25, 26, 27, 28].filterMap fun i => PySem.Challenge.pw_nn0194_01.main.body[i]? } }

/-- a method of a class of the program -/
def methAt (i j : Nat) : DefRec := match PySem.Challenge.pw_nn0194_01.main.body[i]? with
  | some (.ClassDef _ _ _ cb _ _ _ _ _ _ _) => (match cb[j]? with
    | some (.FunctionDef name args body _ _ _ scope _ _ pos) => ⟨name, args, body, scope, pos⟩
    | _ => fnAt 0)
  | _ => fnAt 0
/-- the objects of the program's classes, as the top leaves them -/
def lawK : Params → Frag := fun P => [
  (3, { cls := Value.type "dict", data := Data.dict #[{ hash := PyData.keyHash P (Str.ofString "__name__"), key := Value.str (Str.ofString "__name__") 165, val := Value.str (Str.ofString "law_nn0194_01") 375 }, { hash := PyData.keyHash P (Str.ofString "__doc__"), key := Value.str (Str.ofString "__doc__") 166, val := Value.none }, { hash := PyData.keyHash P (Str.ofString "__package__"), key := Value.str (Str.ofString "__package__") 167, val := Value.none }, { hash := PyData.keyHash P (Str.ofString "__loader__"), key := Value.str (Str.ofString "__loader__") 168, val := Value.builtin "__main__.__loader__#opaque" }, { hash := PyData.keyHash P (Str.ofString "__spec__"), key := Value.str (Str.ofString "__spec__") 169, val := Value.none }, { hash := PyData.keyHash P (Str.ofString "__annotations__"), key := Value.str (Str.ofString "__annotations__") 170, val := Value.ref 6 }, { hash := PyData.keyHash P (Str.ofString "__builtins__"), key := Value.str (Str.ofString "__builtins__") 171, val := Value.ref 4 }, { hash := PyData.keyHash P (Str.ofString "__file__"), key := Value.str (Str.ofString "__file__") 173, val := Value.str (Str.ofString "/claim/cut.py") 172 }, { hash := PyData.keyHash P (Str.ofString "__cached__"), key := Value.str (Str.ofString "__cached__") 174, val := Value.none }, { hash := PyData.keyHash P (Str.ofString "_wall"), key := Value.str (Str.ofString "_wall") 193, val := Value.ref 21 }, { hash := PyData.keyHash P (Str.ofString "PaperError"), key := Value.str (Str.ofString "PaperError") 235, val := Value.ref 46 }, { hash := PyData.keyHash P (Str.ofString "FontFault"), key := Value.str (Str.ofString "FontFault") 251, val := Value.ref 59 }, { hash := PyData.keyHash P (Str.ofString "MOST_LENGTH"), key := Value.str (Str.ofString "MOST_LENGTH") 255, val := Value.int 4 254 }, { hash := PyData.keyHash P (Str.ofString "CMap"), key := Value.str (Str.ofString "CMap") 293, val := Value.ref 85 }, { hash := PyData.keyHash P (Str.ofString "code_of"), key := Value.str (Str.ofString "code_of") 302, val := Value.ref 96 }, { hash := PyData.keyHash P (Str.ofString "code_octets"), key := Value.str (Str.ofString "code_octets") 308, val := Value.ref 101 }, { hash := PyData.keyHash P (Str.ofString "fitting"), key := Value.str (Str.ofString "fitting") 322, val := Value.ref 108 }, { hash := PyData.keyHash P (Str.ofString "next_length"), key := Value.str (Str.ofString "next_length") 328, val := Value.ref 113 }, { hash := PyData.keyHash P (Str.ofString "split_codes"), key := Value.str (Str.ofString "split_codes") 340, val := Value.ref 120 }, { hash := PyData.keyHash P (Str.ofString "text_of"), key := Value.str (Str.ofString "text_of") 346, val := Value.ref 125 }, { hash := PyData.keyHash P (Str.ofString "is_found"), key := Value.str (Str.ofString "is_found") 352, val := Value.ref 130 }, { hash := PyData.keyHash P (Str.ofString "codes_by_text"), key := Value.str (Str.ofString "codes_by_text") 362, val := Value.ref 137 }, { hash := PyData.keyHash P (Str.ofString "octets_of_text"), key := Value.str (Str.ofString "octets_of_text") 368, val := Value.ref 142 }, { hash := PyData.keyHash P (Str.ofString "identity_map"), key := Value.str (Str.ofString "identity_map") 374, val := Value.ref 149 }, { hash := PyData.keyHash P (Str.ofString "_law_draw"), key := Value.str (Str.ofString "_law_draw") 389, val := Value.ref 156 }, { hash := PyData.keyHash P (Str.ofString "_law_spaces"), key := Value.str (Str.ofString "_law_spaces") 403, val := Value.ref 163 }, { hash := PyData.keyHash P (Str.ofString "_law_octets"), key := Value.str (Str.ofString "_law_octets") 409, val := Value.ref 168 }, { hash := PyData.keyHash P (Str.ofString "_law_fits"), key := Value.str (Str.ofString "_law_fits") 421, val := Value.ref 175 }, { hash := PyData.keyHash P (Str.ofString "_law_length"), key := Value.str (Str.ofString "_law_length") 434, val := Value.ref 182 }, { hash := PyData.keyHash P (Str.ofString "_law_number"), key := Value.str (Str.ofString "_law_number") 440, val := Value.ref 187 }, { hash := PyData.keyHash P (Str.ofString "_law_cut"), key := Value.str (Str.ofString "_law_cut") 451, val := Value.ref 194 }, { hash := PyData.keyHash P (Str.ofString "_law_is_sure"), key := Value.str (Str.ofString "_law_is_sure") 457, val := Value.ref 199 }, { hash := PyData.keyHash P (Str.ofString "_law_put"), key := Value.str (Str.ofString "_law_put") 463, val := Value.ref 204 }, { hash := PyData.keyHash P (Str.ofString "_law_put_heard"), key := Value.str (Str.ofString "_law_put_heard") 471, val := Value.ref 211 }, { hash := PyData.keyHash P (Str.ofString "law"), key := Value.str (Str.ofString "law") 477, val := Value.ref 216 }] 35 }),
  (29, { cls := Value.type "tuple", data := Data.seq #[Value.int (-1) 209] }),
  (35, { cls := Value.type "code", data := Data.fields #[Value.str (Str.ofString "__init__") 210, Value.str (Str.ofString "PaperError.__init__") 211, Value.str (Str.ofString "/claim/cut.py") 212, Value.int 7 0, Value.int 3 0, Value.int 0 0, Value.int 0 0, Value.int 3 0, Value.ref 30, Value.bool true, Value.int 181 0, Value.ref 31, Value.none, Value.ref 32, Value.ref 33, Value.ref 34, Value.int 216 0, Value.int 7 0, Value.str (Str.ofString "/claim/cut.py") 217] }),
  (36, { cls := Value.type "function", data := Data.func { name := Str.ofString "__init__", qualname := Str.ofString "PaperError.__init__", params := (methAt 2 0).params, body := FuncBody.stmts (methAt 2 0).body, scope := (methAt 2 0).scope, globals := 3, closure := [], defaults := Value.ref 29, kwdefaults := Value.none, pyModule := Value.str (Str.ofString "paperhold.errors") 194, code := Value.ref 35 } }),
  (45, { cls := Value.type "dict", data := Data.dict #[{ hash := PyData.keyHash P (Str.ofString "__module__"), key := Value.str (Str.ofString "__module__") 203, val := Value.str (Str.ofString "paperhold.errors") 194 }, { hash := PyData.keyHash P (Str.ofString "__firstlineno__"), key := Value.str (Str.ofString "__firstlineno__") 207, val := Value.int 5 206 }, { hash := PyData.keyHash P (Str.ofString "__init__"), key := Value.str (Str.ofString "__init__") 218, val := Value.ref 36 }, { hash := PyData.keyHash P (Str.ofString "told"), key := Value.str (Str.ofString "told") 225, val := Value.ref 43 }, { hash := PyData.keyHash P (Str.ofString "__static_attributes__"), key := Value.str (Str.ofString "__static_attributes__") 228, val := Value.ref 44 }, { hash := PyData.keyHash P (Str.ofString "__weakref__"), key := Value.str (Str.ofString "__weakref__") 230, val := Value.ref 47 }, { hash := PyData.keyHash P (Str.ofString "__doc__"), key := Value.str (Str.ofString "__doc__") 231, val := Value.none }] 3 }),
  (46, { cls := Value.type "type", data := Data.cls { name := Str.ofString "PaperError", bases := [Value.type "Exception"], mro := [Value.ref 46, Value.type "Exception", Value.type "BaseException", Value.type "object"], ns := 45, qualname := Str.ofString "PaperError", subclasses := [Value.ref 59] }, slots := #[some (Value.ref 22), none, some (Value.str (Str.ofString "PaperError") 196), some (Value.str (Str.ofString "PaperError") 204), some (Value.builtin "Exception.__new__"), some (Value.bool true)] }),
  (58, { cls := Value.type "dict", data := Data.dict #[{ hash := PyData.keyHash P (Str.ofString "__module__"), key := Value.str (Str.ofString "__module__") 243, val := Value.str (Str.ofString "paperhold.errors") 194 }, { hash := PyData.keyHash P (Str.ofString "__firstlineno__"), key := Value.str (Str.ofString "__firstlineno__") 247, val := Value.int 14 246 }, { hash := PyData.keyHash P (Str.ofString "__static_attributes__"), key := Value.str (Str.ofString "__static_attributes__") 248, val := Value.ref 57 }, { hash := PyData.keyHash P (Str.ofString "__doc__"), key := Value.str (Str.ofString "__doc__") 249, val := Value.none }] 2 }),
  (59, { cls := Value.type "type", data := Data.cls { name := Str.ofString "FontFault", bases := [Value.ref 46], mro := [Value.ref 59, Value.ref 46, Value.type "Exception", Value.type "BaseException", Value.type "object"], ns := 58, qualname := Str.ofString "FontFault" }, slots := #[some (Value.ref 50), none, some (Value.str (Str.ofString "FontFault") 236), some (Value.str (Str.ofString "FontFault") 244), some (Value.builtin "Exception.__new__"), some (Value.bool true)] }),
  (74, { cls := Value.type "code", data := Data.fields #[Value.str (Str.ofString "__init__") 268, Value.str (Str.ofString "CMap.__init__") 269, Value.str (Str.ofString "/claim/cut.py") 270, Value.int 20 0, Value.int 3 0, Value.int 0 0, Value.int 0 0, Value.int 3 0, Value.ref 69, Value.bool true, Value.int 181 0, Value.ref 70, Value.none, Value.ref 71, Value.ref 72, Value.ref 73, Value.int 274 0, Value.int 20 0, Value.str (Str.ofString "/claim/cut.py") 275] }),
  (75, { cls := Value.type "function", data := Data.func { name := Str.ofString "__init__", qualname := Str.ofString "CMap.__init__", params := (methAt 6 0).params, body := FuncBody.stmts (methAt 6 0).body, scope := (methAt 6 0).scope, globals := 3, closure := [], defaults := Value.none, kwdefaults := Value.none, pyModule := Value.str (Str.ofString "paperhold.cmaps") 252, code := Value.ref 74 } }),
  (84, { cls := Value.type "dict", data := Data.dict #[{ hash := PyData.keyHash P (Str.ofString "__module__"), key := Value.str (Str.ofString "__module__") 263, val := Value.str (Str.ofString "paperhold.cmaps") 252 }, { hash := PyData.keyHash P (Str.ofString "__firstlineno__"), key := Value.str (Str.ofString "__firstlineno__") 267, val := Value.int 18 266 }, { hash := PyData.keyHash P (Str.ofString "__init__"), key := Value.str (Str.ofString "__init__") 276, val := Value.ref 75 }, { hash := PyData.keyHash P (Str.ofString "told"), key := Value.str (Str.ofString "told") 283, val := Value.ref 82 }, { hash := PyData.keyHash P (Str.ofString "__static_attributes__"), key := Value.str (Str.ofString "__static_attributes__") 286, val := Value.ref 83 }, { hash := PyData.keyHash P (Str.ofString "__dict__"), key := Value.str (Str.ofString "__dict__") 288, val := Value.ref 86 }, { hash := PyData.keyHash P (Str.ofString "__weakref__"), key := Value.str (Str.ofString "__weakref__") 290, val := Value.ref 87 }, { hash := PyData.keyHash P (Str.ofString "__doc__"), key := Value.str (Str.ofString "__doc__") 291, val := Value.none }] 4 }),
  (85, { cls := Value.type "type", data := Data.cls { name := Str.ofString "CMap", bases := [Value.type "object"], mro := [Value.ref 85, Value.type "object"], ns := 84, qualname := Str.ofString "CMap" }, slots := #[none, none, some (Value.str (Str.ofString "CMap") 256), some (Value.str (Str.ofString "CMap") 264), some (Value.builtin "object.__new__"), some (Value.bool true)] })]
abbrev lawAs : List Addr := [3, 29, 35, 36, 45, 46, 58, 59, 74, 75, 84, 85]
theorem lawK_as (P : Params) : lawAs = (lawK P).map (·.1) := by rfl
abbrev lawHook : Hook := kHook lawK lawAs lawK_as
/-- the looks at the law's text -/
theorem law_said : OpenLaw.wellSaid PySem.Challenge.rw_nn0194_01 = true := by kernel_rfl
theorem law_head (call : WalkO lawView ["PaperError"] (XL lawView []) lawHook.says PySem.Challenge.rw_nn0194_01.row.toRowW (fnAt 28) [] fun f vs => PySem.call f vs) : PySem.Challenge.rw_nn0194_01.Holds := by
  refine holds_law law_said fun said => ?_
  refine holds_open (q := lawView) (loose := ["PaperError"]) (Xt := fun s => xlAt lawView [] s && recOk (RowW.records PySem.Challenge.rw_nn0194_01.row.toRowW) s) (XP := XL lawView []) (Yf := Hook.obs lawHook) (Ya := Hook.val lawHook) (YP := Hook.says lawHook) (N := 2976) ?hl (Hook.of _) (Hook.keeps _) (fun s e => xl_of s (Bool.and_eq_true_iff.mp e).1) XL.keeps (by rfl) (by rfl) (by rfl) (fun s e => recFacts_of (Bool.and_eq_true_iff.mp e).2) (by first | rfl | fail "") (by first | assumption | decide +kernel) (by decide +kernel) ⟨rfl, rfl, rfl, rfl, rfl, by decide +kernel⟩ ?hw call
  case hw => w_witness2
  case hl => intro w; kernel_rfl
end Mine

namespace Mine

/-- the first frame -/
theorem At.enterTop {Γ : Cx} {h h₁ : Heap} {d : DefRec} {ps : List Str} {f : Addr} {cd : Value} {vs : List Value} {ds : List D} {z : Addr → Prop} (K : DefOk d ps) (hlen : vs.length = ps.length) (hnc : ((cellsFrom (h.objs.size + 1) d.scope.names []).map (·.1)).Nodup)
    (F : Fr h h.objs.size h₁ (bindL (envOfC d.name d.scope h.objs.size f cd).kindOf (ps.zip vs) fun _ => none)) (X : Cl h.objs.size (cellsFrom (h.objs.size + 1) d.scope.names []) h₁ (bindC (envOfC d.name d.scope h.objs.size f cd).kindOf (ps.zip vs) fun _ => none))
    (r : RepVs Γ.toWd ⟨z, []⟩ h ds vs) (hz : ∀ b, z b → (h.get? b).isSome = true) (hb : Γ.base = h) (hhd : Γ.A.handled = none) (hun : Γ.A.units + 3 + 200 + 10 * (Γ.lv - 1) ≤ cLine) (hdp : Γ.A.depth + 1 + (Γ.lv - 1) < recursionLimit)
    (hg : Γ.base.Ns mainGlobals Γ.mg) (hbi : Γ.base.Ns builtinsNs Γ.mb) (lim : Γ.base.NoLimit) (fn : ∀ d ∈ Γ.recs, ∃ a o pm cd doc, Γ.mg d.name = some (.ref a) ∧ Γ.base.get? a = some o ∧ o.data = .func (Calls.docDef d.name d.params d.body d.scope pm cd doc) ∧ Γ.base.CodeRec cd d.name) (kin : Γ.K.In Γ.base) :
    At (Γ.callee d h.objs.size f cd 0) ⟨z, []⟩ ⟨ploc ps ds, []⟩ h₁ := by
  have hk : Kept h h₁ := F.keep
  have hfresh : h.get? h.objs.size = none := fresh_size h
  have cfresh : ∀ c ∈ (cellsFrom (h.objs.size + 1) d.scope.names []).map (·.2), h.get? c = none := fun c hc => Heap.get?_none_of_le (Nat.le_of_lt (cells_above X hc))
  have mufresh : ∀ b ∈ (Γ.callee d h.objs.size f cd 0).mu, h.get? b = none := fun b hb => by
    rcases List.mem_cons.mp hb with q | q
    · subst q; exact hfresh
    · exact cfresh b q
  have keys : ((ps.zip vs).map (·.1)).Nodup := by rw [zip_keys, hlen, List.take_length]; exact K.nodup
  refine ⟨⟨K.kind, rfl, rfl, List.mem_cons_self, fun x c hc => Nat.ne_of_gt (X.above x c (mem_of_lookup hc)), fun x y c h1 h2 => name_of_addr X.apart (mem_of_lookup h1) (mem_of_lookup h2), fun x e => ?_, hhd, hun, hdp, hg, hbi, lim, fn, kin⟩,
    fun b o e => hk b o (by rw [← hb]; exact e), ?_, fun x c hc => ⟨_, X.cell x c hc⟩, rfl, ?_, by simp, ?_, ?_, ?_, ?_⟩
  · have e' : d.scope.names.lookup x = some .cell := e
    exact Option.isSome_iff_exists.mp (cellsFrom_some d.scope.names (h.objs.size + 1) [] (.inl e'))
  · refine ⟨_, F.ns, fun x e hx => ?_⟩
    obtain ⟨v, hm, rv⟩ := zip_lookup r hx
    have hp : x ∈ ps := (List.of_mem_zip hm).1
    refine ⟨v, ?_, rv.mono (fun _ z => z) (fun b o _ q => hk b o q) (fun _ _ e => e)⟩
    rcases K.kinds x hp with q | q
    · exact .inl ⟨q, bindL_get (show (envOfC d.name d.scope h.objs.size f cd).kindOf x = some .local from q) keys hm⟩
    · refine .inr ⟨q, ?_⟩
      obtain ⟨c, hc⟩ := Option.isSome_iff_exists.mp (cellsFrom_some d.scope.names (h.objs.size + 1) [] (.inl q))
      have := X.cell x c hc
      rw [bindC_get (show (envOfC d.name d.scope h.objs.size f cd).kindOf x ≠ some .local from by rw [show (envOfC d.name d.scope h.objs.size f cd).kindOf x = some .cell from q]; simp) keys hm] at this
      exact ⟨c, hc, this⟩
  · intro i o hi
    simp at hi
  · intro b hb
    exact ⟨fun zb => not_live (mufresh b hb) (hz b zb), by simp⟩
  · rintro b (q | q)
    · simp at q
    · show Γ.base.get? b = none
      rw [hb]; exact mufresh b q
  · have lv : ∀ b, (h.get? b).isSome = true → (h₁.get? b).isSome = true := fun b l => by obtain ⟨o, e⟩ := Option.isSome_iff_exists.mp l; exact live_of (hk b o e)
    rintro b (q | q | q)
    · exact lv b (hz b q)
    · simp at q
    · rcases List.mem_cons.mp q with q | q
      · subst q; exact ns_live F.ns
      · exact cell_of_mem X hnc q
  · intro x c hc
    have := cfresh c (lookup_mem hc)
    exact ⟨fun zb => not_live this (hz c zb), by simp⟩

/-- the places of the statements of the classes' __init__ -/
def posC : Nat → Pos := match (methAt 6 0).body with
  | [.Assign [.Attribute (.Name _ a) _ b] (.Name _ c) d, .Assign [.Attribute (.Name _ e) _ f] (.Name _ g) h] => fun i => [a, b, c, d, e, f, g, h].getD i ⟨0, 0, 0, 0⟩
  | _ => fun _ => ⟨0, 0, 0, 0⟩
def posF : Nat → Pos := match (methAt 2 0).body with
  | [.Expr (.Call (.Attribute (.Name _ a) _ b) [.Name _ c, .Name _ d] [] e) f, .Assign [.Attribute (.Name _ g) _ h] (.Name _ i) j, .Assign [.Attribute (.Name _ k) _ l] (.Name _ m) n] => fun q => [a, b, c, d, e, f, g, h, i, j, k, l, m, n].getD q ⟨0, 0, 0, 0⟩
  | _ => fun _ => ⟨0, 0, 0, 0⟩

theorem law_init (P : Params) : InitOk (lawK P) 75 := ⟨⟨.type "function", none, #[], "__init__", "CMap.__init__", (methAt 6 0).params, posC, (methAt 6 0).scope, .none, .none, .none, .str (Str.ofString "paperhold.cmaps") 252, none, .ref 74, .none,
  by kernel_rfl, by kernel_rfl, fun _ _ _ => by kernel_rfl, by kernel_rfl, by kernel_rfl, by kernel_rfl, by decide +kernel, by kernel_rfl, by kernel_rfl, by kernel_rfl⟩⟩
theorem law_cm (P : Params) : CmOk (lawK P) 85 := ⟨by kernel_rfl, by kernel_rfl, by kernel_rfl, by kernel_rfl, by kernel_rfl, ⟨75, by kernel_rfl, by kernel_rfl, law_init P⟩, by kernel_rfl, by kernel_rfl⟩
theorem law_finit (P : Params) : FInit (lawK P) 36 := ⟨⟨.type "function", none, #[], "__init__", "PaperError.__init__", (methAt 2 0).params, posF, (methAt 2 0).scope, .ref 29, .none, .none, .str (Str.ofString "paperhold.errors") 194, none, .ref 35, .none, .int (-1) 209,
  by kernel_rfl, by kernel_rfl, fun s a b X => BindsTo.of_defaults (T := 29) (o := { cls := .type "tuple", data := .seq #[.int (-1) 209] }) rfl (X _ _ (by kernel_rfl)) rfl rfl rfl, by kernel_rfl, by kernel_rfl, by kernel_rfl, by kernel_rfl, by decide +kernel, by kernel_rfl, by kernel_rfl, by kernel_rfl, by kernel_rfl⟩⟩
theorem law_ff (P : Params) : FFOk (lawK P) 59 := ⟨⟨"FontFault", "FontFault", 58, 46, [.ref 46], [], [], false, none, none, some (.ref 50), none, some (.str (Str.ofString "FontFault") 236), some (.str (Str.ofString "FontFault") 244), some (.bool true), by kernel_rfl⟩,
  ⟨36, by kernel_rfl, by kernel_rfl, law_finit P⟩, by kernel_rfl, by kernel_rfl, by kernel_rfl, by kernel_rfl⟩
end Mine

namespace Mine

theorem law_recs : recsOf lawView = [fnAt 0, fnAt 7, fnAt 8, fnAt 9, fnAt 10, fnAt 11, fnAt 12, fnAt 13, fnAt 14, fnAt 15, fnAt 16, fnAt 18, fnAt 19, fnAt 20, fnAt 21, fnAt 22, fnAt 23, fnAt 24, fnAt 25, fnAt 26, fnAt 27, fnAt 28] := by kernel_rfl

theorem law_g0 {w : World} {h : Heap} {mg mb : Str → Option Value} {loose : List Str} {mean : ExcName → Option Value} (KX : (lawK w.params).In h) (T : Top lawView loose mean mg mb h) : G0 mg mb (recsOf lawView) (lawK w.params) 85 where
  bu := fun x hx => by
    simp only [List.mem_cons, List.not_mem_nil, or_false] at hx
    rcases hx with rfl | rfl | rfl | rfl | rfl | rfl
    · exact ⟨mg_none_of KX T.g (by kernel_rfl), (T.builtins _ (by decide)).trans Boot.«len»⟩
    · exact ⟨mg_none_of KX T.g (by kernel_rfl), (T.builtins _ (by decide)).trans Boot.«min»⟩
    · exact ⟨mg_none_of KX T.g (by kernel_rfl), (T.builtins _ (by decide)).trans Boot.«max»⟩
    · exact ⟨mg_none_of KX T.g (by kernel_rfl), (T.builtins _ (by decide)).trans Boot.«sum»⟩
    · exact ⟨mg_none_of KX T.g (by kernel_rfl), (T.builtins _ (by decide)).trans Boot.«abs»⟩
    · exact ⟨mg_none_of KX T.g (by kernel_rfl), (T.builtins _ (by decide)).trans Boot.«sorted»⟩
  ty := fun x hx => by
    simp only [List.mem_cons, List.not_mem_nil, or_false] at hx
    rcases hx with rfl | rfl | rfl | rfl | rfl | rfl
    · exact ⟨mg_none_of KX T.g (by kernel_rfl), (T.builtins _ (by decide)).trans Boot.«range»⟩
    · exact ⟨mg_none_of KX T.g (by kernel_rfl), (T.builtins _ (by decide)).trans Boot.«bytes»⟩
    · exact ⟨mg_none_of KX T.g (by kernel_rfl), (T.builtins _ (by decide)).trans Boot.«list»⟩
    · exact ⟨mg_none_of KX T.g (by kernel_rfl), (T.builtins _ (by decide)).trans Boot.«dict»⟩
    · exact ⟨mg_none_of KX T.g (by kernel_rfl), (T.builtins _ (by decide)).trans Boot.«zip»⟩
    · exact ⟨mg_none_of KX T.g (by kernel_rfl), (T.builtins _ (by decide)).trans Boot.«int»⟩
  fn := fun i hi => by
    have hm : fnAt i ∈ recsOf lawView := by
      rw [law_recs]
      simp only [List.mem_cons, List.not_mem_nil, or_false] at hi
      rcases hi with rfl | rfl | rfl | rfl | rfl | rfl | rfl | rfl | rfl | rfl | rfl | rfl | rfl | rfl | rfl | rfl | rfl | rfl | rfl | rfl
      all_goals (repeat first | exact List.mem_cons_self | apply List.mem_cons_of_mem)
    obtain ⟨a, _, _, _, _, e, _⟩ := T.fn _ hm
    exact ⟨hm, a, e⟩
  most := ⟨254, mg_of KX T.g (by kernel_rfl)⟩
  cls := mg_of KX T.g (by kernel_rfl)
  keep := by kernel_rfl
  cmOk := law_cm _
theorem law_g1 {w : World} {h : Heap} {mg mb : Str → Option Value} {loose : List Str} {mean : ExcName → Option Value} (KX : (lawK w.params).In h) (T : Top lawView loose mean mg mb h) : G1 mg mb (lawK w.params) 59 :=
  ⟨mg_of KX T.g (by kernel_rfl), by kernel_rfl, law_ff _, mg_none_of KX T.g (by kernel_rfl), (T.builtins _ (by decide)).trans Boot.«Exception»⟩

theorem k_law : DefOk (fnAt 28) ["script"] := ⟨rfl, rfl, rfl, fun vs h pm cd doc => by
  obtain ⟨v, rfl⟩ : ∃ v, vs = [v] := by
    match vs, h with
    | [v], _ => exact ⟨v, rfl⟩
  rfl, by decide, fun p hp => by
    simp only [List.mem_cons, List.not_mem_nil, or_false] at hp
    subst hp; exact .inl rfl⟩

set_option maxHeartbeats 2000000 in
theorem law_walk : WalkO lawView ["PaperError"] (XL lawView []) lawHook.says PySem.Challenge.rw_nn0194_01.row.toRowW (fnAt 28) [] fun f vs => PySem.call f vs := by
  intro w s₀ s₁ mg mb G Y fa o pm cd doc dV kV ho hd hcd hD hmg hg args vals as hpre hlay hrd hwl hlo
  have KX := kIn_of Y
  refine Ground.open G ?_
  intro T B D TE TW
  wrow_args hpre hlay hrd hwl hlo
  rename_i xs _ _ _ _ _ _ _ L vs _ hL ra w1 r0 hI hr hlen hcond
  refine enter_call ?_
  refine codeAny_mono ?_ (fun _ _ g => GoodW.toG g)
  have hxs : xs.length ≤ 63 := by lia
  have hm28 : fnAt 28 ∈ recsOf lawView := by rw [law_recs]; repeat first | exact List.mem_cons_self | apply List.mem_cons_of_mem
  obtain ⟨fa', o', pm', cd', doc', e1, e2, e3, e4⟩ := T.fn _ hm28
  rw [hmg] at e1; cases e1
  let Γ : Cx := { prog := PySem.Challenge.pw_nn0194_01, w := w, cm := 85, A := callerA, env := envOfC (fnAt 28).name (fnAt 28).scope 0 0 .none, base := s₁.heap, mu := [], k := 0, mg := mg, mb := mb, recs := recsOf lawView, K := lawK w.params, lv := 21 }
  have hG : GE Γ := law_g0 KX T
  have hX : G1 Γ.mg Γ.mb Γ.K 59 := law_g1 KX T
  have rv : RepVs Γ.toWd ⟨fun b => b = L, []⟩ s₁.heap [intsD xs] [.ref L] := ⟨.ref L, [], rfl, ⟨L, vs, rfl, rfl, hL, Reps.ofInts hI⟩, rfl⟩
  have hLl : ∀ b, b = L → (s₁.heap.get? b).isSome = true := fun b q => by
    subst q; obtain ⟨o, e, _⟩ := hL; exact live_of e
  refine call_cells (show callerA.depth < recursionLimit from by decide) e2 e3 T.nolimit e4 (k_law.bind [.ref L] rfl pm' cd' doc') ?_ (fun h₁ tk F X => ?_) k_law.co k_law.gen k_law.kind
  · rintro ⟨x, v⟩ hx
    have hp : x ∈ [("script" : Str)] := (List.of_mem_zip hx).1
    rw [List.mem_singleton.mp hp]; exact .inl rfl
  · have nd := cells_nodup (names := (fnAt 28).scope.names) (by decide) (s₁.heap.objs.size + 1)
    have a := At.enterTop (Γ := Γ) (cd := cd') (f := fa) k_law rfl nd F X rv hLl rfl rfl (show callerA.units + 3 + 200 + 10 * (21 - 1) ≤ cLine from by decide) (show callerA.depth + 1 + (21 - 1) < recursionLimit from by decide) T.g T.b T.nolimit T.fn KX
    refine wpAny_mono (law_0 (C := 59) hG hX rfl (show 20 ≤ 21 from by decide) xs hxs s₁.heap.objs.size fa cd' ⟨fun b => b = L, []⟩ { s₁ with heap := h₁, toks := tk } a) (fun fl s' p => ?_) fun _ _ x => x.elim
    obtain ⟨g', σ', o2, h', tk', rfl, t, a', fo, q⟩ := p
    have q : o2 = .ret (.bool true) := q
    subst q
    obtain ⟨v, rfl, rb⟩ := fo
    have rb : v = .bool true := rb
    subst rb
    refine ⟨.inl ⟨.bool true, .bool true, [], rfl, fun _ => rfl, .bool true, ?_, fun _ => ⟨by simp, by simp⟩⟩, fun b o e => ?_, rfl, hg⟩
    · kernel_rfl
    · refine t.kp b o (fun m => ?_) (by simp) (F.keep b o e)
      rcases List.mem_cons.mp m with q | q
      · rw [q, fresh_size] at e; cases e
      · have := cells_above X q
        exact absurd (Nat.lt_trans this (Heap.lt_size e)) (Nat.lt_irrefl _)
end Mine

theorem PySem.Challenge.cw_nn0194_01_holds : PySem.Challenge.rw_nn0194_01.Holds := by
  exact Mine.law_head Mine.law_walk

