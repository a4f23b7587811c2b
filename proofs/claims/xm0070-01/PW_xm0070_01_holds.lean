import PyProof.Rows.All
import Wide.All
import OpenK.AllK
import Wide.FinOn
import PySem.Challenge.RW_xm0070_01
open PySem PySem.W PyProof.Rows
set_option Elab.async false
set_option linter.unusedVariables false
set_option linter.unusedSimpArgs false

namespace Mine

/-- frozen data -/
inductive D where
  | int (i : Int)
  | bool (b : Bool)
  | tup (ds : List D)
  | lst (ds : List D)
  | opq (k : Nat)

/-- what a name holds: frozen data, or the i-th list that may change -/
inductive W where
  | d (x : D)
  | m (i : Nat)

abbrev Store := List (List D)
abbrev Zd := Addr → Obj → Prop

mutual
inductive RD (O : Nat → D) (Z : Zd) : Value → D → Prop
  | int (i : Int) (t : Tok) : RD O Z (.int i t) (.int i)
  | bool (b : Bool) : RD O Z (.bool b) (.bool b)
  | tup {a : Addr} {o : Obj} {vs : List Value} {n : Nat} {ds : List D} : Z a o → o.cls = .type "tuple" → o.data = .seq vs.toArray n → RDs O Z vs ds → RD O Z (.ref a) (.tup ds)
  | lst {a : Addr} {vs : List Value} {n : Nat} {ds : List D} : Z a (listOf vs.toArray n) → RDs O Z vs ds → RD O Z (.ref a) (.lst ds)
  | opq {v : Value} (k : Nat) : RD O Z v (O k) → RD O Z v (.opq k)
inductive RDs (O : Nat → D) (Z : Zd) : List Value → List D → Prop
  | nil : RDs O Z [] []
  | cons {v : Value} {d : D} {vs : List Value} {ds : List D} : RD O Z v d → RDs O Z vs ds → RDs O Z (v :: vs) (d :: ds)
end

mutual
theorem RD.mono {O : Nat → D} {Z Z' : Zd} (h : ∀ a o, Z a o → Z' a o) : ∀ {v : Value} {d : D}, RD O Z v d → RD O Z' v d
  | _, _, .int i t => .int i t
  | _, _, .bool b => .bool b
  | _, _, .tup z c e r => .tup (h _ _ z) c e (RDs.mono h r)
  | _, _, .lst z r => .lst (h _ _ z) (RDs.mono h r)
  | _, _, .opq k r => .opq k (RD.mono h r)
theorem RDs.mono {O : Nat → D} {Z Z' : Zd} (h : ∀ a o, Z a o → Z' a o) : ∀ {vs : List Value} {ds : List D}, RDs O Z vs ds → RDs O Z' vs ds
  | _, _, .nil => .nil
  | _, _, .cons a b => .cons (RD.mono h a) (RDs.mono h b)
end

section
variable {O : Nat → D} {Z : Zd}
theorem RDs.length {vs : List Value} {ds : List D} (h : RDs O Z vs ds) : vs.length = ds.length := by
  induction vs generalizing ds with
  | nil => cases h; rfl
  | cons v vs ih => cases h with | cons _ r => simp [ih r]
theorem RDs.append {vs ws : List Value} {ds es : List D} (h : RDs O Z vs ds) (k : RDs O Z ws es) : RDs O Z (vs ++ ws) (ds ++ es) := by
  induction vs generalizing ds with
  | nil => cases h; exact k
  | cons v vs ih => cases h with | cons a r => exact .cons a (ih r)
theorem RDs.get {vs : List Value} {ds : List D} (h : RDs O Z vs ds) {k : Nat} {d : D} (hk : ds[k]? = some d) : ∃ v, vs[k]? = some v ∧ RD O Z v d := by
  induction vs generalizing ds k with
  | nil => cases h; cases hk
  | cons v vs ih =>
    cases h with
    | cons a r =>
      cases k with
      | zero => cases hk; exact ⟨v, rfl, a⟩
      | succ k => exact ih r hk
theorem RDs.getv {vs : List Value} {ds : List D} (h : RDs O Z vs ds) {k : Nat} {v : Value} (hk : vs[k]? = some v) : ∃ d, ds[k]? = some d ∧ RD O Z v d := by
  induction vs generalizing ds k with
  | nil => cases hk
  | cons u vs ih =>
    cases h with
    | cons a r =>
      cases k with
      | zero => cases hk; exact ⟨_, rfl, a⟩
      | succ k => exact ih r hk
theorem RDs.drop {vs : List Value} {ds : List D} (h : RDs O Z vs ds) (k : Nat) : RDs O Z (vs.drop k) (ds.drop k) := by
  induction k generalizing vs ds with
  | zero => exact h
  | succ k ih =>
    cases h with
    | nil => exact .nil
    | cons a r => exact ih r
theorem RDs.take {vs : List Value} {ds : List D} (h : RDs O Z vs ds) (k : Nat) : RDs O Z (vs.take k) (ds.take k) := by
  induction k generalizing vs ds with
  | zero => simp; exact .nil
  | succ k ih =>
    cases h with
    | nil => exact .nil
    | cons a r => exact .cons a (ih r)
theorem RDs.reverse {vs : List Value} {ds : List D} (h : RDs O Z vs ds) : RDs O Z vs.reverse ds.reverse := by
  induction vs generalizing ds with
  | nil => cases h; exact .nil
  | cons v vs ih => cases h with | cons a r => rw [List.reverse_cons, List.reverse_cons]; exact (ih r).append (.cons a .nil)
theorem RDs.set {vs : List Value} {ds : List D} (h : RDs O Z vs ds) {v : Value} {d : D} (hd : RD O Z v d) (k : Nat) : RDs O Z (vs.set k v) (ds.set k d) := by
  induction vs generalizing ds k with
  | nil => cases h; exact .nil
  | cons u vs ih =>
    cases h with
    | cons a r =>
      cases k with
      | zero => exact .cons hd r
      | succ k => exact .cons a (ih r k)
theorem RDs.erase {vs : List Value} {ds : List D} (h : RDs O Z vs ds) (k : Nat) : RDs O Z (vs.eraseIdx k) (ds.eraseIdx k) := by
  induction vs generalizing ds k with
  | nil => cases h; exact .nil
  | cons u vs ih =>
    cases h with
    | cons a r =>
      cases k with
      | zero => exact r
      | succ k => exact .cons a (ih r k)
end

/-- the word reads: frozen, or the i-th of the lists that may change -/
inductive RW (O : Nat → D) (Z : Zd) (α : List Addr) : Value → W → Prop
  | d {v : Value} {x : D} : RD O Z v x → RW O Z α v (.d x)
  | m {i : Nat} {a : Addr} : α[i]? = some a → RW O Z α (.ref a) (.m i)

structure Inv (O : Nat → D) (B : Heap) (Z : Zd) (α : List Addr) (σ : Store) (h : Heap) : Prop where
  base : ∀ a o, B.get? a = some o → Z a o
  led : ∀ a o, Z a o → h.get? a = some o
  len : α.length = σ.length
  cell : ∀ (i : Nat) a l, α[i]? = some a → σ[i]? = some l → ∃ vs n, h.get? a = some (listOf (List.toArray vs) n) ∧ RDs O Z vs l
  apart : ∀ a ∈ α, ∀ o, ¬ Z a o
  nodup : α.Nodup

structure Ext (O : Nat → D) (B : Heap) (X : Addr → Prop) (Z : Zd) (α : List Addr) (h : Heap) (Z' : Zd) (α' : List Addr) (σ' : Store) (h' : Heap) : Prop where
  sub : ∀ a o, Z a o → Z' a o
  new : ∀ a o, Z' a o → Z a o ∨ h.get? a = none ∨ X a
  keep : ∀ a o, a ∉ α → ¬ X a → h.get? a = some o → h'.get? a = some o
  live : ∀ a o, ¬ X a → h.get? a = some o → ∃ o', h'.get? a = some o'
  pre : ∃ β, α' = α ++ β ∧ ∀ a ∈ β, h.get? a = none ∨ X a
  inv : Inv O B Z' α' σ' h'

theorem not_some_none {α : Type} {x : Option α} {y : α} (h : x = none) (k : x = some y) : False := by rw [h] at k; cases k

section
variable {O : Nat → D} {B : Heap} {X Y : Addr → Prop} {Z Z' Z'' : Zd} {α α' α'' : List Addr} {σ σ' σ'' : Store} {h h' h'' : Heap}

theorem Inv.live (I : Inv O B Z α σ h) {a : Addr} (ha : a ∈ α) : ∃ o, h.get? a = some o := by
  obtain ⟨i, hi, rfl⟩ := List.mem_iff_getElem.mp ha
  obtain ⟨vs, n, e, _⟩ := I.cell i _ (σ[i]'(by rw [← I.len]; exact hi)) (List.getElem?_eq_getElem hi) (List.getElem?_eq_getElem _)
  exact ⟨_, e⟩

theorem Ext.refl (I : Inv O B Z α σ h) : Ext O B X Z α h Z α σ h :=
  ⟨fun _ _ z => z, fun _ _ z => .inl z, fun _ _ _ _ e => e, fun _ o _ e => ⟨o, e⟩, ⟨[], by simp, fun _ m => nomatch m⟩, I⟩

theorem Ext.weaken (hx : ∀ a o, h.get? a = some o → X a → Y a) (E : Ext O B X Z α h Z' α' σ' h') : Ext O B Y Z α h Z' α' σ' h' := by
  have tr : ∀ a, X a → h.get? a = none ∨ Y a := fun a x => by
    cases e : h.get? a with
    | none => exact .inl rfl
    | some o => exact .inr (hx a o e x)
  refine ⟨E.sub, fun a o z => ?_, fun a o n1 n2 e => E.keep a o n1 (fun x => n2 (hx a o e x)) e, fun a o n e => E.live a o (fun x => n (hx a o e x)) e, ?_, E.inv⟩
  · rcases E.new a o z with z | z | z
    · exact .inl z
    · exact .inr (.inl z)
    · exact .inr (tr a z)
  · obtain ⟨β, e, hβ⟩ := E.pre
    exact ⟨β, e, fun a ha => (hβ a ha).elim .inl (tr a)⟩

theorem Ext.trans (E : Ext O B X Z α h Z' α' σ' h') (F : Ext O B X Z' α' h' Z'' α'' σ'' h'') : Ext O B X Z α h Z'' α'' σ'' h'' := by
  obtain ⟨β, rfl, hβ⟩ := E.pre
  obtain ⟨γ, rfl, hγ⟩ := F.pre
  have dead : ∀ a, h'.get? a = none → h.get? a = none ∨ X a := fun a n => by
    cases e : h.get? a with
    | none => exact .inl rfl
    | some o =>
      by_cases x : X a
      · exact .inr x
      · obtain ⟨o', e'⟩ := E.live a o x e; exact (not_some_none n e').elim
  refine ⟨fun a o z => F.sub a o (E.sub a o z), fun a o z => ?_, fun a o n1 n2 e => ?_, fun a o n e => ?_, ⟨β ++ γ, by rw [List.append_assoc], fun a ha => ?_⟩, F.inv⟩
  · rcases F.new a o z with z | z | z
    · exact E.new a o z
    · exact .inr (dead a z)
    · exact .inr (.inr z)
  · refine F.keep a o (fun q => ?_) n2 (E.keep a o n1 n2 e)
    rcases List.mem_append.mp q with q | q
    · exact n1 q
    · rcases hβ a q with d | x
      · exact not_some_none d e
      · exact n2 x
  · obtain ⟨o', e'⟩ := E.live a o n e; exact F.live a o' n e'
  · rcases List.mem_append.mp ha with q | q
    · exact hβ a q
    · rcases hγ a q with d | x
      · exact dead a d
      · exact .inr x

theorem Ext.word {v : Value} {x : W} (E : Ext O B X Z α h Z' α' σ' h') (r : RW O Z α v x) : RW O Z' α' v x := by
  obtain ⟨β, rfl, _⟩ := E.pre
  cases r with
  | d r => exact .d (r.mono E.sub)
  | m e => exact .m (by rw [List.getElem?_append_left (List.getElem?_eq_some_iff.mp e).1]; exact e)

/-- nothing but new objects that are not told -/
theorem Ext.of_keeps (I : Inv O B Z α σ h) (hk : ∀ a o, h.get? a = some o → h'.get? a = some o) : Ext O B X Z α h Z α σ h' :=
  ⟨fun _ _ z => z, fun _ _ z => .inl z, fun a o _ _ e => hk a o e, fun a o _ e => ⟨o, hk a o e⟩, ⟨[], by simp, fun _ m => nomatch m⟩,
    ⟨I.base, fun a o z => hk a o (I.led a o z), I.len, fun i a l e1 e2 => (let ⟨vs, n, e, r⟩ := I.cell i a l e1 e2; ⟨vs, n, hk a _ e, r⟩), I.apart, I.nodup⟩⟩

noncomputable def Zadd (Z : Zd) (a : Addr) (o : Obj) : Zd := fun b p => Z b p ∨ (b = a ∧ p = o)

/-- a new object that is told -/
theorem Ext.add (I : Inv O B Z α σ h) (hk : ∀ a o, h.get? a = some o → h'.get? a = some o) {a : Addr} {o : Obj} (ha : h.get? a = none) (ho : h'.get? a = some o) :
    Ext O B X Z α h (Zadd Z a o) α σ h' := by
  refine ⟨fun _ _ z => .inl z, fun b p z => ?_, fun a o _ _ e => hk a o e, fun a o _ e => ⟨o, hk a o e⟩, ⟨[], by simp, fun _ m => nomatch m⟩,
    ⟨fun b p e => .inl (I.base b p e), fun b p z => ?_, I.len, fun i b l e1 e2 => (let ⟨vs, n, e, r⟩ := I.cell i b l e1 e2; ⟨vs, n, hk b _ e, r.mono fun _ _ z => .inl z⟩), fun b hb p z => ?_, I.nodup⟩⟩
  · rcases z with z | ⟨rfl, rfl⟩
    · exact .inl z
    · exact .inr (.inl ha)
  · rcases z with z | ⟨rfl, rfl⟩
    · exact hk b p (I.led b p z)
    · exact ho
  · rcases z with z | ⟨rfl, rfl⟩
    · exact I.apart b hb p z
    · obtain ⟨q, e⟩ := I.live hb; exact not_some_none ha e

/-- a new list that may change -/
theorem Ext.addM (I : Inv O B Z α σ h) (hk : ∀ a o, h.get? a = some o → h'.get? a = some o) {a : Addr} {vs : List Value} {n : Nat} {l : List D} (ha : h.get? a = none)
    (ho : h'.get? a = some (listOf (List.toArray vs) n)) (hr : RDs O Z vs l) : Ext O B X Z α h Z (α ++ [a]) (σ ++ [l]) h' := by
  have na : a ∉ α := fun q => by obtain ⟨o, e⟩ := I.live q; exact not_some_none ha e
  refine ⟨fun _ _ z => z, fun _ _ z => .inl z, fun a o _ _ e => hk a o e, fun a o _ e => ⟨o, hk a o e⟩, ⟨[a], rfl, fun b m => by rw [List.mem_singleton.mp m]; exact .inl ha⟩,
    ⟨I.base, fun b p z => hk b p (I.led b p z), by simp [I.len], fun i b k e1 e2 => ?_, fun b hb p z => ?_, ?_⟩⟩
  · by_cases hi : i < α.length
    · rw [List.getElem?_append_left hi] at e1
      rw [List.getElem?_append_left (by rw [← I.len]; exact hi)] at e2
      obtain ⟨vs, n, e, r⟩ := I.cell i b k e1 e2
      exact ⟨vs, n, hk b _ e, r⟩
    · rw [List.getElem?_append_right (Nat.le_of_not_lt hi)] at e1
      rw [List.getElem?_append_right (by rw [← I.len]; exact Nat.le_of_not_lt hi), ← I.len] at e2
      have h0 : i - α.length = 0 := by
        cases hj : i - α.length with
        | zero => rfl
        | succ j => rw [hj] at e1; simp at e1
      rw [h0] at e1 e2
      cases e1; cases e2
      exact ⟨vs, n, ho, hr⟩
  · rcases List.mem_append.mp hb with q | q
    · exact I.apart b q p z
    · rw [List.mem_singleton.mp q] at z; exact not_some_none ha (I.led a p z)
  · exact List.nodup_append.mpr ⟨I.nodup, by simp, fun x hx y hy e => na (by rw [List.mem_singleton.mp hy] at e; exact e ▸ hx)⟩

/-- a list that may change is changed -/
theorem Ext.setM (I : Inv O B Z α σ h) {i : Nat} {a : Addr} {l : List D} {vs : List Value} {n : Nat} (hi : α[i]? = some a) (hl : ∃ k, σ[i]? = some k) (hs : Heap.SameBut a h h')
    (ho : h'.get? a = some (listOf (List.toArray vs) n)) (hr : RDs O Z vs l) : Ext O B X Z α h Z α (σ.set i l) h' := by
  have ha : a ∈ α := List.mem_of_getElem? hi
  have kp : ∀ b o, b ≠ a → h.get? b = some o → h'.get? b = some o := fun b o n e => (hs.2 b n).trans e
  refine ⟨fun _ _ z => z, fun _ _ z => .inl z, fun b o nb _ e => kp b o (fun q => nb (q ▸ ha)) e, fun b o _ e => ?_, ⟨[], by simp, fun _ m => nomatch m⟩,
    ⟨I.base, fun b p z => kp b p (fun q => I.apart a ha p (q ▸ z)) (I.led b p z), by simp [I.len], fun j b k e1 e2 => ?_, I.apart, I.nodup⟩⟩
  · by_cases q : b = a
    · exact ⟨_, q ▸ ho⟩
    · exact ⟨o, kp b o q e⟩
  · by_cases q : i = j
    · subst q
      rw [hi] at e1; cases e1
      obtain ⟨k0, hk0⟩ := hl
      rw [List.getElem?_set_self (List.getElem?_eq_some_iff.mp hk0).1] at e2; cases e2
      exact ⟨vs, n, ho, hr⟩
    · rw [List.getElem?_set_ne q] at e2
      obtain ⟨vs', n', e, r⟩ := I.cell j b k e1 e2
      refine ⟨vs', n', kp b _ (fun qq => q ?_) e, r⟩
      rw [qq] at e1
      obtain ⟨h1, e1'⟩ := List.getElem?_eq_some_iff.mp e1
      obtain ⟨h2, e2'⟩ := List.getElem?_eq_some_iff.mp hi
      exact (List.getElem_inj I.nodup).mp (e2'.trans e1'.symm)
end

end Mine


namespace Mine

/-- what the text says of a frame: the names of the slots, the scope's table -/
structure Cx where
  xs : List (Option Str)
  ks : List (Str × NameKind)

abbrev Rho := List (Option W)

noncomputable def nameOk (x : Str) : Bool := !(x == ("__debug__" : Str)) && !(x == ("__classdict__" : Str))

structure Frm (O : Nat → D) (Z : Zd) (α : List Addr) (C : Cx) (env : Env) (ρ : Rho) (h : Heap) : Prop where
  kind : env.scope.kind = .function
  glb : env.globals = mainGlobals
  blt : env.builtins = builtinsNs
  kl : ∀ x, C.ks.lookup x = some .local → env.kindOf x = some .local
  kg : ∀ x, C.ks.lookup x = some .globalImplicit → env.kindOf x = some .globalImplicit
  kc : ∀ x, C.ks.lookup x = some .cell → env.kindOf x = some .cell
  kf : ∀ x, C.ks.lookup x = some .free → env.kindOf x = some .cell ∨ env.kindOf x = some .free
  ns : ∃ m, h.Ns env.locals m ∧ ∀ (i : Nat) x w, C.xs[i]? = some (some x) → ρ[i]? = some (some w) → C.ks.lookup x = some .local → ∃ v, m x = some v ∧ RW O Z α v w
  cs : ∀ x, (C.ks.lookup x = some .cell ∨ C.ks.lookup x = some .free) → ∃ c, env.cells.lookup x = some c
  cv : ∀ (i : Nat) x w c, C.xs[i]? = some (some x) → ρ[i]? = some (some w) → (C.ks.lookup x = some .cell ∨ C.ks.lookup x = some .free) → env.cells.lookup x = some c → ∃ v, h.IsCell c (some v) ∧ RW O Z α v w
  lz : ∀ o, ¬ Z env.locals o
  la : env.locals ∉ α
  cz : ∀ x c, env.cells.lookup x = some c → (∀ o, ¬ Z c o) ∧ c ∉ α ∧ c ≠ env.locals ∧ ∃ v, h.IsCell c v
  inj : ∀ x y c, env.cells.lookup x = some c → env.cells.lookup y = some c → x = y
  nd : ∀ (i j : Nat) x, C.xs[i]? = some (some x) → C.xs[j]? = some (some x) → i = j

/-- what a statement of the frame may change besides the lists -/
noncomputable def FX (C : Cx) (env : Env) (a : Addr) : Prop := a = env.locals ∨ ∃ x, C.ks.lookup x = some .cell ∧ env.cells.lookup x = some a

section
variable {O : Nat → D} {B : Heap} {X : Addr → Prop} {Z Z' : Zd} {α α' : List Addr} {σ σ' : Store} {h h' : Heap} {C : Cx} {env : Env} {ρ : Rho}

theorem Ext.gone (E : Ext O B X Z α h Z' α' σ' h') {a : Addr} (nx : ¬ X a) (l : ∃ o, h.get? a = some o) : ((∀ o, ¬ Z a o) → ∀ o, ¬ Z' a o) ∧ (a ∉ α → a ∉ α') := by
  obtain ⟨o, e⟩ := l
  refine ⟨fun n p z => ?_, fun n q => ?_⟩
  · rcases E.new a p z with z | d | x
    · exact n p z
    · exact not_some_none d e
    · exact nx x
  · obtain ⟨β, rfl, hβ⟩ := E.pre
    rcases List.mem_append.mp q with q | q
    · exact n q
    · rcases hβ a q with d | x
      · exact not_some_none d e
      · exact nx x

theorem IsCell.live {c : Addr} {v : Option Value} (x : h.IsCell c v) : ∃ o, h.get? c = some o := let ⟨o, e, _⟩ := x; ⟨o, e⟩
theorem Ns.live {c : Addr} {m} (x : h.Ns c m) : ∃ o, h.get? c = some o := let ⟨o, _, _, e, _⟩ := x; ⟨o, e⟩

theorem Frm.extX (F : Frm O Z α C env ρ h) (E : Ext O B X Z α h Z' α' σ' h') (nL : ¬ X env.locals) (nc : ∀ x c, env.cells.lookup x = some c → ¬ X c) : Frm O Z' α' C env ρ h' := by
  obtain ⟨m, hn, hm⟩ := F.ns
  have gL := E.gone nL (Ns.live hn)
  refine ⟨F.kind, F.glb, F.blt, F.kl, F.kg, F.kc, F.kf, ⟨m, hn.at' fun o e => E.keep _ o F.la nL e, fun i x w e1 e2 e3 => ?_⟩, F.cs, fun i x w c e1 e2 e3 e4 => ?_, gL.1 F.lz, gL.2 F.la, fun x c e => ?_, F.inj, F.nd⟩
  · obtain ⟨v, e, r⟩ := hm i x w e1 e2 e3
    exact ⟨v, e, E.word r⟩
  · obtain ⟨v, q, r⟩ := F.cv i x w c e1 e2 e3 e4
    obtain ⟨_, n2, _, _⟩ := F.cz x c e4
    obtain ⟨o, ho, hd⟩ := q
    exact ⟨v, ⟨o, E.keep c o n2 (nc x c e4) ho, hd⟩, E.word r⟩
  · obtain ⟨n1, n2, n3, v, q⟩ := F.cz x c e
    have g := E.gone (nc x c e) (IsCell.live q)
    obtain ⟨o, ho, hd⟩ := q
    exact ⟨g.1 n1, g.2 n2, n3, v, o, E.keep c o n2 (nc x c e) ho, hd⟩

theorem Frm.ext (F : Frm O Z α C env ρ h) (E : Ext O B (fun _ => False) Z α h Z' α' σ' h') : Frm O Z' α' C env ρ h' := F.extX E (fun q => q) fun _ _ _ q => q

variable {M : Model} {A : Around} {E : Value → Shared → Prop} {s : Shared}

/-- a name is read -/
theorem load_name (F : Frm O Z α C env ρ s.heap) {i : Nat} {x : Str} {w : W} {pos : Pos} {Q : Value → Shared → Prop} (hx : C.xs[i]? = some (some x)) (hr : ρ[i]? = some (some w)) (hn : nameOk x = true)
    (hk : C.ks.lookup x = some .local ∨ C.ks.lookup x = some .cell ∨ C.ks.lookup x = some .free) (h : ∀ v, RW O Z α v w → Q v s) : wpAny M A (eval (.Name x pos) env) Q E s := by
  unfold nameOk at hn
  simp only [Bool.and_eq_true, Bool.not_eq_true'] at hn
  refine wpAny_Name ?_ hn.1
  obtain ⟨m, hns, hm⟩ := F.ns
  rcases hk with hk | hk
  · obtain ⟨v, e, r⟩ := hm i x w hx hr hk
    exact wpAny_loadName_local F.kind (F.kl x hk) hns e (h v r)
  · obtain ⟨c, hc⟩ := F.cs x hk
    obtain ⟨v, q, r⟩ := F.cv i x w c hx hr hk hc
    have : env.kindOf x = some .cell ∨ env.kindOf x = some .free := by
      rcases hk with hk | hk
      · exact .inl (F.kc x hk)
      · exact F.kf x hk
    rcases this with kk | kk
    · exact wpAny_loadName_cell F.kind kk hc q (h v r)
    · exact wpAny_loadName_free F.kind kk hc q (h v r) hn.2

/-- a name is bound -/
theorem store_name (I : Inv O B Z α σ s.heap) (F : Frm O Z α C env ρ s.heap) {i : Nat} {x : Str} {v : Value} {w : W} {Q : Unit → Shared → Prop} (hx : C.xs[i]? = some (some x)) (hi : i < ρ.length)
    (hk : C.ks.lookup x = some .local ∨ C.ks.lookup x = some .cell) (hw : RW O Z α v w)
    (h : ∀ h' tk, Ext O B (FX C env) Z α s.heap Z α σ h' → Frm O Z α C env (ρ.set i (some w)) h' → Q () { s with heap := h', toks := tk }) : wpAny M A (storeName env x v) Q E s := by
  obtain ⟨m, hns, hm⟩ := F.ns
  have at_ : ∀ {j : Nat} {y : Str} {u : W}, C.xs[j]? = some (some y) → (ρ.set i (some w))[j]? = some (some u) → (y = x ∧ u = w) ∨ (y ≠ x ∧ ρ[j]? = some (some u)) := by
    intro j y u e1 e2
    by_cases q : i = j
    · subst q
      rw [hx] at e1
      rw [List.getElem?_set_self hi] at e2
      cases e1; cases e2
      exact .inl ⟨rfl, rfl⟩
    · rw [List.getElem?_set_ne q] at e2
      exact .inr ⟨fun qq => q (F.nd i j x hx (qq ▸ e1)), e2⟩
  rcases hk with hk | hk
  · refine wpAny_storeName_local (F.kl x hk) hns (fun h' hn' hs' => ?_) (by rw [F.kind]; rfl)
    have kp : ∀ b o, b ≠ env.locals → s.heap.get? b = some o → h'.get? b = some o := fun b o n e => (hs'.2 b n).trans e
    refine h h' _ ⟨fun _ _ z => z, fun _ _ z => .inl z, fun a o _ n e => kp a o (fun q => n (.inl q)) e, fun a o _ e => ?_, ⟨[], by simp, fun _ q => nomatch q⟩,
      ⟨I.base, fun a o z => kp a o (fun q => F.lz o (q ▸ z)) (I.led a o z), I.len, fun j a l e1 e2 => ?_, I.apart, I.nodup⟩⟩ ?_
    · by_cases q : a = env.locals
      · subst q; exact Ns.live hn'
      · exact ⟨o, kp a o q e⟩
    · obtain ⟨vs, n, e, r⟩ := I.cell j a l e1 e2
      exact ⟨vs, n, kp a _ (fun q => F.la (q ▸ List.mem_of_getElem? e1)) e, r⟩
    · refine ⟨F.kind, F.glb, F.blt, F.kl, F.kg, F.kc, F.kf, ⟨_, hn', fun j y u e1 e2 e3 => ?_⟩, F.cs, fun j y u c e1 e2 e3 e4 => ?_, F.lz, F.la, fun y c e => ?_, F.inj, F.nd⟩
      · rcases at_ e1 e2 with ⟨rfl, rfl⟩ | ⟨n, e⟩
        · exact ⟨v, by simp, hw⟩
        · obtain ⟨v', e', r⟩ := hm j y u e1 e e3
          exact ⟨v', by simp [n, e'], r⟩
      · rcases at_ e1 e2 with ⟨rfl, rfl⟩ | ⟨n, e⟩
        · rw [hk] at e3; rcases e3 with e3 | e3 <;> cases e3
        · obtain ⟨v', q, r⟩ := F.cv j y u c e1 e e3 e4
          exact ⟨v', q.sameBut hs' (F.cz y c e4).2.2.1, r⟩
      · obtain ⟨n1, n2, n3, v', q⟩ := F.cz y c e
        exact ⟨n1, n2, n3, v', q.sameBut hs' n3⟩
  · obtain ⟨c, hc⟩ := F.cs x (.inl hk)
    obtain ⟨n1, n2, n3, v0, q0⟩ := F.cz x c hc
    refine wpAny_storeName_cell F.kind (F.kc x hk) hc q0 fun h' hv' hs' => ?_
    have kp : ∀ b o, b ≠ c → s.heap.get? b = some o → h'.get? b = some o := fun b o n e => (hs'.2 b n).trans e
    refine h h' _ ⟨fun _ _ z => z, fun _ _ z => .inl z, fun a o _ n e => kp a o (fun q => n (.inr ⟨x, hk, q ▸ hc⟩)) e, fun a o _ e => ?_, ⟨[], by simp, fun _ q => nomatch q⟩,
      ⟨I.base, fun a o z => kp a o (fun q => n1 o (q ▸ z)) (I.led a o z), I.len, fun j a l e1 e2 => ?_, I.apart, I.nodup⟩⟩ ?_
    · by_cases q : a = c
      · subst q; exact IsCell.live hv'
      · exact ⟨o, kp a o q e⟩
    · obtain ⟨vs, n, e, r⟩ := I.cell j a l e1 e2
      exact ⟨vs, n, kp a _ (fun q => n2 (q ▸ List.mem_of_getElem? e1)) e, r⟩
    · refine ⟨F.kind, F.glb, F.blt, F.kl, F.kg, F.kc, F.kf, ⟨m, hns.sameBut hs' (Ne.symm n3), fun j y u e1 e2 e3 => ?_⟩, F.cs, fun j y u c' e1 e2 e3 e4 => ?_, F.lz, F.la, fun y c' e => ?_, F.inj, F.nd⟩
      · rcases at_ e1 e2 with ⟨rfl, rfl⟩ | ⟨n, e⟩
        · rw [hk] at e3; cases e3
        · exact hm j y u e1 e e3
      · rcases at_ e1 e2 with ⟨rfl, rfl⟩ | ⟨n, e⟩
        · rw [hc] at e4; cases e4
          exact ⟨v, hv', hw⟩
        · obtain ⟨v', q, r⟩ := F.cv j y u c' e1 e e3 e4
          exact ⟨v', q.sameBut hs' (fun qq => n (F.inj y x c (by rw [qq] at e4; exact e4) hc)), r⟩
      · obtain ⟨m1, m2, m3, v', q⟩ := F.cz y c' e
        refine ⟨m1, m2, m3, ?_⟩
        by_cases qq : c' = c
        · exact ⟨_, qq ▸ hv'⟩
        · exact ⟨v', q.sameBut hs' qq⟩
end
end Mine


namespace Mine

mutual
noncomputable def deq : D → D → Bool
  | .int a, .int b => decide (a = b)
  | .bool a, .bool b => a == b
  | .tup a, .tup b => deqs a b
  | .lst a, .lst b => deqs a b
  | .opq a, .opq b => decide (a = b)
  | _, _ => false
noncomputable def deqs : List D → List D → Bool
  | [], [] => true
  | a :: x, b :: y => deq a b && deqs x y
  | _, _ => false
end
mutual
theorem deq_eq : ∀ {a b : D}, deq a b = true → a = b
  | .int _, .int _, h => by simp [deq] at h; rw [h]
  | .bool _, .bool _, h => by simp [deq] at h; rw [h]
  | .tup _, .tup _, h => by rw [deq] at h; rw [deqs_eq h]
  | .lst _, .lst _, h => by rw [deq] at h; rw [deqs_eq h]
  | .opq _, .opq _, h => by simp [deq] at h; rw [h]
  | .int _, .bool _, h => by simp [deq] at h
  | .int _, .tup _, h => by simp [deq] at h
  | .int _, .lst _, h => by simp [deq] at h
  | .int _, .opq _, h => by simp [deq] at h
  | .bool _, .int _, h => by simp [deq] at h
  | .bool _, .tup _, h => by simp [deq] at h
  | .bool _, .lst _, h => by simp [deq] at h
  | .bool _, .opq _, h => by simp [deq] at h
  | .tup _, .int _, h => by simp [deq] at h
  | .tup _, .bool _, h => by simp [deq] at h
  | .tup _, .lst _, h => by simp [deq] at h
  | .tup _, .opq _, h => by simp [deq] at h
  | .lst _, .int _, h => by simp [deq] at h
  | .lst _, .bool _, h => by simp [deq] at h
  | .lst _, .tup _, h => by simp [deq] at h
  | .lst _, .opq _, h => by simp [deq] at h
  | .opq _, .int _, h => by simp [deq] at h
  | .opq _, .bool _, h => by simp [deq] at h
  | .opq _, .tup _, h => by simp [deq] at h
  | .opq _, .lst _, h => by simp [deq] at h
theorem deqs_eq : ∀ {a b : List D}, deqs a b = true → a = b
  | [], [], _ => rfl
  | _ :: _, _ :: _, h => by rw [deqs, Bool.and_eq_true] at h; rw [deq_eq h.1, deqs_eq h.2]
  | [], _ :: _, h => by simp [deqs] at h
  | _ :: _, [], h => by simp [deqs] at h
end
mutual
theorem deq_refl : ∀ a : D, deq a a = true
  | .int _ => by simp [deq]
  | .bool _ => by simp [deq]
  | .tup a => by rw [deq]; exact deqs_refl a
  | .lst a => by rw [deq]; exact deqs_refl a
  | .opq _ => by simp [deq]
theorem deqs_refl : ∀ a : List D, deqs a a = true
  | [] => by rw [deqs]
  | a :: x => by rw [deqs, deq_refl a, deqs_refl x]; rfl
end

inductive Bop | add | sub | mul | div | mod | pow
inductive Cop | eq | ne | lt | le | gt | ge
inductive Blt | abs | len | max | min | list | sorted | int
inductive IK | val | range | enum

inductive ME where
  | var (i : Nat) | glob (i : Nat) | int (i : Int) | bool (b : Bool)
  | neg (a : ME)
  | bin (o : Bop) (a b : ME) | cmp (o : Cop) (a b : ME)
  | and (a b : ME) | or (a b : ME) | ite (c a b : ME)
  | idx (a i : ME) | upto (a i : ME) | from' (a i : ME) | rev (a : ME)
  | tup (es : List ME) | lst (es : List ME) | mlst (es : List ME) | mrep (a b : ME) | mcopy (a : ME)
  | call (f : Nat) (es : List ME) | blt (b : Blt) (es : List ME)
  | comp (elt : ME) (two : Bool) (k : IK) (args : List ME) (cond : Option ME)
  | stop

inductive MS where
  | set (i : Nat) (e : ME)
  | sets (sw : Bool) (is : List Nat) (es : List ME)
  | setItem (i : Nat) (k v : ME)
  | app (i : Nat) (e : ME) | rem (i : Nat) (e : ME)
  | cond (c : ME) (a b : List MS) | loop (c : ME) (b : List MS)
  | each (tg : List Nat) (k : IK) (args : List ME) (b : List MS)
  | ret (e : ME)
  | stop

inductive Fl where
  | next
  | ret (w : W)

abbrev EvT := Store → Rho → ME → Option (W × Store)
abbrev ExT := Store → Rho → List MS → Option (Fl × Rho × Store)
abbrev FnT := List W → Store → Option (D × Store)

/-- small enough to be a factor, and to be a place -/
noncomputable def small (a : Int) : Bool := decide (a.natAbs < 2 ^ 62)
noncomputable def big : Nat := 1000000

noncomputable def dBin : Bop → D → D → Option D
  | .add, .int a, .int b => some (.int (a + b))
  | .add, .lst a, .lst b => if a.length + b.length ≤ big then some (.lst (a ++ b)) else none
  | .sub, .int a, .int b => some (.int (a - b))
  | .mul, .int a, .int b => if small a then some (.int (a * b)) else none
  | .mul, .lst a, .int b => if small b && decide (a.length * b.toNat ≤ big) then some (.lst (List.replicate b.toNat a).flatten) else none
  | .div, .int a, .int b => if small b && decide (b ≠ 0) then some (.int (a.fdiv b)) else none
  | .mod, .int a, .int b => if small b && decide (b ≠ 0) then some (.int (a.fmod b)) else none
  | .pow, .int a, .int b => if small a && decide (0 ≤ b) && decide (b ≤ 1000) then some (.int (a ^ b.toNat)) else none
  | _, _, _ => none

mutual
/-- may be compared: no bool, nothing unknown -/
noncomputable def dPlain : Nat → D → Bool
  | _, .int _ => true
  | n + 1, .tup l => dPlains n l
  | n + 1, .lst l => dPlains n l
  | _, _ => false
noncomputable def dPlains : Nat → List D → Bool
  | _, [] => true
  | n, a :: x => dPlain n a && dPlains n x
end

noncomputable def dCmp : Cop → D → D → Option Bool
  | .eq, a, b => if dPlain 8 a && dPlain 8 b then some (deq a b) else none
  | .ne, a, b => if dPlain 8 a && dPlain 8 b then some (!deq a b) else none
  | .lt, .int a, .int b => some (decide (a < b))
  | .le, .int a, .int b => some (decide (a ≤ b))
  | .gt, .int a, .int b => some (decide (b < a))
  | .ge, .int a, .int b => some (decide (b ≤ a))
  | _, _, _ => none

/-- the items of a list, frozen or not -/
noncomputable def wList (σ : Store) : W → Option (List D)
  | .d (.lst l) => some l
  | .m i => σ[i]?
  | _ => none

/-- frozen data: a list that may change is not -/
noncomputable def wD : W → Option D
  | .d x => some x
  | .m _ => none
noncomputable def wDs : List W → Option (List D)
  | [] => some []
  | w :: r => (wD w).bind fun x => (wDs r).map fun y => x :: y

noncomputable def dIdx (l : List D) (i : Int) : Option D := if 0 ≤ i && small i then l[i.toNat]? else none

noncomputable def dInts : List D → Option (List Int)
  | [] => some []
  | .int a :: r => (dInts r).map fun y => a :: y
  | _ => none

noncomputable def upTo (a : Int) : Nat → List D
  | 0 => []
  | n + 1 => .int a :: upTo (a + 1) n
noncomputable def steps (a c : Int) : Nat → List D
  | 0 => []
  | n + 1 => .int a :: steps (a + c) c n

noncomputable def dRange : List D → Option (List D)
  | [.int n] => if small n && decide (n.toNat ≤ big) then some (steps 0 1 n.toNat) else none
  | [.int a, .int b] => if small a && small b && decide ((b - a).toNat ≤ big) then some (steps a 1 (b - a).toNat) else none
  | [.int a, .int b, .int c] => if small a && small b && decide (c = 2) && decide ((b - a).toNat ≤ big) then some (steps a 2 (((b - a) + 1).fdiv 2).toNat) else none
  | _ => none

noncomputable def dEnum (i : Int) : List D → List D
  | [] => []
  | x :: r => .tup [.int i, x] :: dEnum (i + 1) r

/-- the order of two lists of ints -/
noncomputable def ltInts : List Int → List Int → Bool
  | [], [] => false
  | [], _ :: _ => true
  | _ :: _, [] => false
  | a :: x, b :: y => if a = b then ltInts x y else decide (a < b)

noncomputable def insI (a : Int) : List Int → List Int
  | [] => [a]
  | b :: r => if a ≤ b then a :: b :: r else b :: insI a r
noncomputable def sortI : List Int → List Int
  | [] => []
  | a :: r => insI a (sortI r)

/-- the two sorts that the text asks for: of ints; the other is handed in -/
noncomputable def dSort (srt : List D → Option (List D)) (l : List D) : Option (List D) :=
  match dInts l with
  | some ns => if ns.length < 64 then some ((sortI ns).map .int) else none
  | none => srt l

noncomputable def maxI (a : Int) : List Int → Int
  | [] => a
  | b :: r => maxI (if a < b then b else a) r

noncomputable def evBlt (srt : List D → Option (List D)) (σ : Store) : Blt → List W → Option D
  | .abs, [.d (.int a)] => some (.int (if a < 0 then -a else a))
  | .int, [.d (.int a)] => some (.int a)
  | .len, [w] => (wList σ w).bind fun l => if l.length ≤ big then some (.int l.length) else none
  | .max, [.d (.int a), .d (.int b)] => some (.int (if b > a then b else a))
  | .min, [.d (.int a), .d (.int b)] => some (.int (if b < a then b else a))
  | .max, [w] => (wList σ w).bind fun l => (dInts l).bind fun ns => match ns with
    | [] => none
    | a :: r => some (.int (maxI a r))
  | .list, [w] => (wList σ w).bind fun l => if l.length ≤ big then some (.lst l) else none
  | .sorted, [w] => (wList σ w).bind fun l => (dSort srt l).map .lst
  | _, _ => none

noncomputable def evL (r : EvT) (ρ : Rho) : Store → List ME → Option (List W × Store)
  | σ, [] => some ([], σ)
  | σ, e :: es => (r σ ρ e).bind fun p => (evL r ρ p.2 es).map fun q => (p.1 :: q.1, q.2)

/-- what is iterated over: the items, and what must stand in the store all the while -/
noncomputable def evI (r : EvT) (σ : Store) (ρ : Rho) (k : IK) (args : List ME) : Option (List D × Option (Nat × List D) × Store) :=
  (evL r ρ σ args).bind fun p => match k, p.1 with
    | .val, [.d (.lst l)] => if l.length ≤ big then some (l, none, p.2) else none
    | .val, [.m i] => (p.2[i]?).bind fun l => if l.length ≤ big then some (l, some (i, l), p.2) else none
    | .enum, [.d (.lst l)] => if l.length ≤ big then some (dEnum 0 l, none, p.2) else none
    | .range, ws => (wDs ws).bind fun ds => (dRange ds).map fun l => (l, none, p.2)
    | _, _ => none

noncomputable def stays : Option (Nat × List D) → Store → Bool
  | none, _ => true
  | some (i, l), σ => match σ[i]? with
    | some l' => deqs l l'
    | none => false

noncomputable def asTru : W → Option Bool
  | .d (.bool b) => some b
  | _ => none

/-- the slots that a turn binds -/
noncomputable def binds1 (two : Bool) (x : D) : Option (List (Option W)) :=
  if two then (match x with
    | .tup [a, b] => some [some (.d a), some (.d b)]
    | _ => none)
  else some [some (.d x)]

noncomputable def evC (r : EvT) (ρ : Rho) (elt : ME) (two : Bool) (st : Option (Nat × List D)) (cond : Option ME) : Store → List D → Option (List D × Store)
  | σ, [] => some ([], σ)
  | σ, x :: xs => (binds1 two x).bind fun bs =>
    (match cond with
      | none => some (true, σ)
      | some c => (r σ (ρ ++ bs) c).bind fun p => (asTru p.1).map fun b => (b, p.2)).bind fun p =>
    if p.1 then (r p.2 (ρ ++ bs) elt).bind fun q => (wD q.1).bind fun y => if stays st q.2 then (evC r ρ elt two st cond q.2 xs).map fun (t : List D × Store) => (y :: t.1, t.2) else none
    else if stays st p.2 then evC r ρ elt two st cond p.2 xs else none

section
variable (F : Nat → FnT) (G : Nat → Option D) (srt : List D → Option (List D))

noncomputable def evE : Nat → EvT
  | 0, _, _, _ => none
  | n + 1, σ, ρ, e => match e with
    | .var i => match ρ[i]? with
      | some (some w) => some (w, σ)
      | _ => none
    | .glob i => (G i).map fun d => (.d d, σ)
    | .int i => some (.d (.int i), σ)
    | .bool b => some (.d (.bool b), σ)
    | .neg a => (evE n σ ρ a).bind fun p => match p.1 with
      | .d (.int i) => some (.d (.int (-i)), p.2)
      | _ => none
    | .bin o a b => (evE n σ ρ a).bind fun p => (evE n p.2 ρ b).bind fun q => (wD p.1).bind fun x => (wD q.1).bind fun y => (dBin o x y).map fun z => (.d z, q.2)
    | .cmp o a b => (evE n σ ρ a).bind fun p => (evE n p.2 ρ b).bind fun q => (wD p.1).bind fun x => (wD q.1).bind fun y => (dCmp o x y).map fun z => (.d (.bool z), q.2)
    | .and a b => (evE n σ ρ a).bind fun p => (asTru p.1).bind fun x => if x then evE n p.2 ρ b else some (.d (.bool false), p.2)
    | .or a b => (evE n σ ρ a).bind fun p => (asTru p.1).bind fun x => if x then some (.d (.bool true), p.2) else evE n p.2 ρ b
    | .ite c a b => (evE n σ ρ c).bind fun p => (asTru p.1).bind fun x => if x then evE n p.2 ρ a else evE n p.2 ρ b
    | .idx a i => (evE n σ ρ a).bind fun p => (evE n p.2 ρ i).bind fun q => match p.1, q.1 with
      | .d (.tup l), .d (.int k) => (dIdx l k).map fun d => (.d d, q.2)
      | .d (.lst l), .d (.int k) => (dIdx l k).map fun d => (.d d, q.2)
      | .m j, .d (.int k) => (q.2[j]?).bind fun l => (dIdx l k).map fun d => (.d d, q.2)
      | _, _ => none
    | .upto a i => (evE n σ ρ a).bind fun p => (evE n p.2 ρ i).bind fun q => match q.1 with
      | .d (.int k) => (wList q.2 p.1).bind fun l => if 0 ≤ k && small k && decide (l.length ≤ big) then some (.d (.lst (l.take k.toNat)), q.2) else none
      | _ => none
    | .from' a i => (evE n σ ρ a).bind fun p => (evE n p.2 ρ i).bind fun q => match q.1 with
      | .d (.int k) => (wList q.2 p.1).bind fun l => if 0 ≤ k && small k && decide (l.length ≤ big) then some (.d (.lst (l.drop k.toNat)), q.2) else none
      | _ => none
    | .rev a => (evE n σ ρ a).bind fun p => (wList p.2 p.1).bind fun l => if l.length ≤ big then some (.d (.lst l.reverse), p.2) else none
    | .tup es => (evL (evE n) ρ σ es).bind fun p => (wDs p.1).bind fun ds => if ds.length ≤ big then some (.d (.tup ds), p.2) else none
    | .lst es => (evL (evE n) ρ σ es).bind fun p => (wDs p.1).bind fun ds => if ds.length ≤ big then some (.d (.lst ds), p.2) else none
    | .mlst es => (evL (evE n) ρ σ es).bind fun p => (wDs p.1).bind fun ds => if ds.length ≤ big then some (.m p.2.length, p.2 ++ [ds]) else none
    | .mrep a b => (evE n σ ρ a).bind fun p => (evE n p.2 ρ b).bind fun q => (wD p.1).bind fun x => (wD q.1).bind fun y => match x, y with
      | .lst l, .int k => (dBin .mul (.lst l) (.int k)).bind fun z => (match z with
        | .lst l' => some (.m q.2.length, q.2 ++ [l'])
        | _ => none)
      | _, _ => none
    | .mcopy a => (evE n σ ρ a).bind fun p => (wList p.2 p.1).bind fun l => if l.length ≤ big then some (.m p.2.length, p.2 ++ [l]) else none
    | .call f es => (evL (evE n) ρ σ es).bind fun p => (F f p.1 p.2).map fun q => (.d q.1, q.2)
    | .blt b es => (evL (evE n) ρ σ es).bind fun p => (evBlt srt p.2 b p.1).map fun d => (.d d, p.2)
    | .comp elt two k args cond => (evI (evE n) σ ρ k args).bind fun p => (evC (evE n) ρ elt two p.2.1 cond p.2.2 p.1).map fun q => (.d (.lst q.1), q.2)
    | .stop => none

/-- the targets of a loop are bound -/
noncomputable def bindT (ρ : Rho) : List Nat → D → Option Rho
  | [i], x => some (ρ.set i (some (.d x)))
  | [i, j], .tup [a, b] => some ((ρ.set i (some (.d a))).set j (some (.d b)))
  | _, _ => none

noncomputable def setAll (ρ : Rho) : List Nat → List W → Option Rho
  | [], [] => some ρ
  | i :: is, w :: ws => setAll (ρ.set i (some w)) is ws
  | _, _ => none

noncomputable def exEach (r : ExT) (tg : List Nat) (b : List MS) (st : Option (Nat × List D)) : Store → Rho → List D → Option (Fl × Rho × Store)
  | σ, ρ, [] => some (.next, ρ, σ)
  | σ, ρ, x :: xs => (bindT ρ tg x).bind fun ρ₁ => (r σ ρ₁ b).bind fun p => match p.1 with
    | .next => if stays st p.2.2 then exEach r tg b st p.2.2 p.2.1 xs else none
    | .ret w => some (.ret w, p.2.1, p.2.2)

noncomputable def remI (a : Int) : List Int → Option (List Int)
  | [] => none
  | b :: r => if b = a then some r else (remI a r).map fun t => b :: t

noncomputable def ex1 (r : EvT) (rs : ExT) (σ : Store) (ρ : Rho) : MS → Option (Fl × Rho × Store)
  | .set i e => (r σ ρ e).bind fun p => if i < ρ.length then some (.next, ρ.set i (some p.1), p.2) else none
  | .sets sw is es => (evL r ρ σ es).bind fun p => if (is.all fun i => decide (i < ρ.length)) && decide (p.1.length ≤ big) then (if sw then setAll ρ is.reverse p.1.reverse else setAll ρ is p.1).map fun ρ' => (.next, ρ', p.2) else none
  | .setItem i k v => (r σ ρ v).bind fun p => (wD p.1).bind fun x => (r p.2 ρ k).bind fun q => match ρ[i]?, q.1 with
    | some (some (.m j)), .d (.int k) => (q.2[j]?).bind fun l => if 0 ≤ k && small k && decide (k.toNat < l.length) then some (.next, ρ, q.2.set j (l.set k.toNat x)) else none
    | _, _ => none
  | .app i e => (r σ ρ e).bind fun p => (wD p.1).bind fun x => match ρ[i]? with
    | some (some (.m j)) => (p.2[j]?).bind fun l => if l.length ≤ big then some (.next, ρ, p.2.set j (l ++ [x])) else none
    | _ => none
  | .rem i e => (r σ ρ e).bind fun p => match p.1, ρ[i]? with
    | .d (.int a), some (some (.m j)) => (p.2[j]?).bind fun l => if l.length ≤ big then (dInts l).bind fun ns => (remI a ns).map fun ns' => (.next, ρ, p.2.set j (ns'.map .int)) else none
    | _, _ => none
  | .cond c a b => (r σ ρ c).bind fun p => (asTru p.1).bind fun x => if x then rs p.2 ρ a else rs p.2 ρ b
  | .loop c b => (r σ ρ c).bind fun p => (asTru p.1).bind fun x => if x then (rs p.2 ρ b).bind fun q => (match q.1 with
      | .next => rs q.2.2 q.2.1 [.loop c b]
      | .ret w => some (.ret w, q.2.1, q.2.2))
    else some (.next, ρ, p.2)
  | .each tg k args b => (evI r σ ρ k args).bind fun p => if tg.all fun i => decide (i < ρ.length) then exEach rs tg b p.2.1 p.2.2 ρ p.1 else none
  | .ret e => (r σ ρ e).map fun p => (.ret p.1, ρ, p.2)
  | .stop => none

noncomputable def exS : Nat → ExT
  | 0, _, _, _ => none
  | _ + 1, σ, ρ, [] => some (.next, ρ, σ)
  | n + 1, σ, ρ, m :: rest => (ex1 (evE F G srt n) (exS n) σ ρ m).bind fun p => match p.1 with
    | .next => exS n p.2.2 p.2.1 rest
    | .ret w => some (.ret w, p.2.1, p.2.2)

/-- a def's body upon its arguments -/
noncomputable def exFn (n slots : Nat) (body : List MS) : FnT := fun ws σ =>
  (exS F G srt n σ (ws.map some ++ List.replicate (slots - ws.length) none) body).bind fun p => match p.1 with
    | .ret (.d x) => some (x, p.2.2.take σ.length)
    | .ret (.m i) => if σ.length ≤ i then (p.2.2[i]?).map fun l => (.lst l, p.2.2.take σ.length) else none
    | .next => none
end

end Mine


namespace Mine

/-! options, handed on -/
section
variable {P : Prop} {α β : Type}
theorem bE {x : Option α} {f : α → Option β} {y : β} (h : x.bind f = some y) (k : ∀ a, x = some a → f a = some y → P) : P := by
  cases x with
  | none => cases h
  | some a => exact k a rfl h
theorem mE {x : Option α} {f : α → β} {y : β} (h : x.map f = some y) (k : ∀ a, x = some a → f a = y → P) : P := by
  cases x with
  | none => cases h
  | some a => exact k a rfl (Option.some.inj h)
theorem mR {R : β → Prop} {x : Option α} {f : α → β} {y : β} (h : x.map f = some y) (K : R y) (k : ∀ a, x = some a → R (f a) → P) : P := by
  cases x with
  | none => cases h
  | some a => cases h; exact k a rfl K
theorem iE {c : Prop} [Decidable c] {x : Option α} {y : α} (h : (if c then x else none) = some y) (k : c → x = some y → P) : P := by
  by_cases hc : c
  · rw [if_pos hc] at h; exact k hc h
  · rw [if_neg hc] at h; cases h
theorem iR {R : α → Prop} {c : Prop} [Decidable c] {x y : α} (h : (if c then some x else none) = some y) (K : R y) (k : c → R x → P) : P :=
  iE h fun hc h => k hc (by cases h; exact K)
theorem oE {x z : Option α} {y : α} (h : x.or z = some y) (k1 : x = some y → P) (k2 : z = some y → P) : P := by
  cases x with
  | none => exact k2 h
  | some a => exact k1 h
theorem sR {R : α → Prop} {x y : α} (h : some x = some y) (K : R y) : R x := by
  cases h; exact K
end
theorem and_l {a b : Bool} (h : (a && b) = true) : a = true := (Bool.and_eq_true_iff.mp h).1
theorem and_r {a b : Bool} (h : (a && b) = true) : b = true := (Bool.and_eq_true_iff.mp h).2

/-! what data is -/
noncomputable def int? : D → Option Int
  | .int i => some i
  | _ => none
noncomputable def lst? : D → Option (List D)
  | .lst l => some l
  | _ => none
noncomputable def wi? : W → Option Int
  | .d x => int? x
  | .m _ => none
noncomputable def one? : List W → Option W
  | [w] => some w
  | _ => none
noncomputable def two? : List W → Option (W × W)
  | [a, b] => some (a, b)
  | _ => none
theorem int?_eq {x : D} {i : Int} (h : int? x = some i) : x = .int i := by
  cases x <;> cases h; rfl
theorem lst?_eq {x : D} {l : List D} (h : lst? x = some l) : x = .lst l := by
  cases x <;> cases h; rfl

section
variable {O : Nat → D} {Z : Zd} {α : List Addr} {a : Value} {x : D}
theorem RD.isInt0 (r : RD O Z a x) : ∀ {i : Int}, int? x = some i → ∃ t, a = .int i t := by
  cases r with
  | int i t => intro i h; cases h; exact ⟨_, rfl⟩
  | bool => intro i h; cases h
  | tup => intro i h; cases h
  | lst => intro i h; cases h
  | opq => intro i h; cases h
theorem RD.isLst0 (r : RD O Z a x) : ∀ {l : List D}, lst? x = some l → ∃ b vs n, a = .ref b ∧ Z b (listOf (List.toArray vs) n) ∧ RDs O Z vs l := by
  cases r with
  | int => intro i h; cases h
  | bool => intro i h; cases h
  | tup => intro i h; cases h
  | lst z r => intro i h; cases h; exact ⟨_, _, _, rfl, z, r⟩
  | opq => intro i h; cases h
theorem RD.isInt {i : Int} (r : RD O Z a x) (h : int? x = some i) : ∃ t, a = .int i t := r.isInt0 h
theorem RD.isLst {l : List D} (r : RD O Z a x) (h : lst? x = some l) : ∃ b vs n, a = .ref b ∧ Z b (listOf (List.toArray vs) n) ∧ RDs O Z vs l := r.isLst0 h
theorem RW.isI {w : W} {i : Int} (r : RW O Z α a w) (h : wi? w = some i) : ∃ t, a = .int i t := by
  cases r with
  | d r => exact r.isInt h
  | m _ => cases h
theorem RW.isInt {i : Int} {w : W} (r : RW O Z α a w) (e : w = .d (.int i)) : ∃ t, a = .int i t := r.isI (by rw [e]; rfl)
inductive One (R : Value → W → Prop) : List Value → List W → Prop
  | mk {v : Value} {w : W} : R v w → One R [v] [w]
end

/-! the operators, by what their data is -/
section
variable (x y : D)
theorem dC_lt : dCmp .lt x y = (int? x).bind fun i => (int? y).map fun j => decide (i < j) := by cases x <;> cases y <;> rfl
theorem dC_le : dCmp .le x y = (int? x).bind fun i => (int? y).map fun j => decide (i ≤ j) := by cases x <;> cases y <;> rfl
theorem dC_gt : dCmp .gt x y = (int? x).bind fun i => (int? y).map fun j => decide (j < i) := by cases x <;> cases y <;> rfl
theorem dC_ge : dCmp .ge x y = (int? x).bind fun i => (int? y).map fun j => decide (j ≤ i) := by cases x <;> cases y <;> rfl
theorem dB_add : dBin .add x y = ((int? x).bind fun i => (int? y).map fun j => D.int (i + j)).or ((lst? x).bind fun l => (lst? y).bind fun m => if l.length + m.length ≤ big then some (.lst (l ++ m)) else none) := by cases x <;> cases y <;> rfl
theorem dB_sub : dBin .sub x y = (int? x).bind fun i => (int? y).map fun j => D.int (i - j) := by cases x <;> cases y <;> rfl
theorem dB_mul : dBin .mul x y = ((int? x).bind fun i => (int? y).bind fun j => if small i = true then some (D.int (i * j)) else none).or ((lst? x).bind fun l => (int? y).bind fun j => dBin .mul (.lst l) (.int j)) := by
  cases x <;> cases y <;> first | rfl | exact (Option.or_none).symm
theorem dB_div : dBin .div x y = (int? x).bind fun i => (int? y).bind fun j => if (small j && decide (j ≠ 0)) = true then some (D.int (i.fdiv j)) else none := by cases x <;> cases y <;> rfl
theorem dB_mod : dBin .mod x y = (int? x).bind fun i => (int? y).bind fun j => if (small j && decide (j ≠ 0)) = true then some (D.int (i.fmod j)) else none := by cases x <;> cases y <;> rfl
theorem dB_pow : dBin .pow x y = (int? x).bind fun i => (int? y).bind fun j => if (small i && decide (0 ≤ j) && decide (j ≤ 1000)) = true then some (D.int (i ^ j.toNat)) else none := by cases x <;> cases y <;> rfl
end
section
variable (srt : List D → Option (List D)) (σ : Store) (xs : List W)
theorem eB_abs : evBlt srt σ .abs xs = (one? xs).bind fun w => (wi? w).map fun a => .int (if a < 0 then -a else a) := by
  cases xs with
  | nil => rfl
  | cons w r => cases w with
    | m _ => cases r <;> rfl
    | d x => cases x <;> cases r <;> rfl
theorem eB_int : evBlt srt σ .int xs = (one? xs).bind fun w => (wi? w).map fun a => .int a := by
  cases xs with
  | nil => rfl
  | cons w r => cases w with
    | m _ => cases r <;> rfl
    | d x => cases x <;> cases r <;> rfl
theorem eB_len : evBlt srt σ .len xs = (one? xs).bind fun w => (wList σ w).bind fun l => if l.length ≤ big then some (.int l.length) else none := by
  cases xs with
  | nil => rfl
  | cons w r => cases r <;> rfl
theorem eB_list : evBlt srt σ .list xs = (one? xs).bind fun w => (wList σ w).bind fun l => if l.length ≤ big then some (.lst l) else none := by
  cases xs with
  | nil => rfl
  | cons w r => cases r <;> rfl
theorem eB_sorted : evBlt srt σ .sorted xs = (one? xs).bind fun w => (wList σ w).bind fun l => (dSort srt l).map .lst := by
  cases xs with
  | nil => rfl
  | cons w r => cases r <;> rfl
theorem eB_min : evBlt srt σ .min xs = (two? xs).bind fun p => (wi? p.1).bind fun a => (wi? p.2).map fun b => .int (if b < a then b else a) := by
  cases xs with
  | nil => rfl
  | cons w r => cases r with
    | nil => cases w with
      | m _ => rfl
      | d x => cases x <;> rfl
    | cons w2 r => cases w with
      | m _ => cases r <;> rfl
      | d x => cases w2 with
        | m _ => cases x <;> cases r <;> rfl
        | d y => cases x <;> cases y <;> cases r <;> rfl
theorem eB_max : evBlt srt σ .max xs = ((two? xs).bind fun p => (wi? p.1).bind fun a => (wi? p.2).map fun b => D.int (if b > a then b else a)).or ((one? xs).bind fun w => (wList σ w).bind fun l => (dInts l).bind fun ns => match ns with
    | [] => none
    | a :: r => some (.int (maxI a r))) := by
  cases xs with
  | nil => rfl
  | cons w r => cases r with
    | nil => cases w with
      | m _ => rfl
      | d x => cases x <;> rfl
    | cons w2 r => cases w with
      | m _ => cases r <;> rfl
      | d x => cases w2 with
        | m _ => cases x <;> cases r <;> rfl
        | d y => cases x <;> cases y <;> cases r <;> rfl
end
end Mine


namespace Mine

noncomputable def K1 (O : Nat → D) (B : Heap) (Z : Zd) (α : List Addr) (s : Shared) (Q : Value → Shared → Prop) (x : W) (σ' : Store) : Prop :=
  ∀ v h' tk Z' α', Ext O B (fun _ => False) Z α s.heap Z' α' σ' h' → RW O Z' α' v x → Q v { s with heap := h', toks := tk }

section
variable {O : Nat → D} {B : Heap} {Z : Zd} {α : List Addr} {σ : Store} {s : Shared} {Q : Value → Shared → Prop}

theorem get_top_none (h : Heap) : h.get? h.objs.size = none := by
  cases e : h.get? h.objs.size with
  | none => rfl
  | some o => exact absurd (Heap.lt_size e) (Nat.lt_irrefl _)

theorem K1.now {v : Value} {x : D} (k : K1 O B Z α s Q (.d x) σ) (I : Inv O B Z α σ s.heap) (r : RD O Z v x) (tk : Nat) : Q v { s with toks := tk } :=
  k v s.heap tk Z α (Ext.refl I) (.d r)

/-- the new object is a list -/
theorem K1.list {ds : List D} {vs : List Value} {n : Nat} {h' : Heap} {a : Addr} (k : K1 O B Z α s Q (.d (.lst ds)) σ) (I : Inv O B Z α σ s.heap) (r : RDs O Z vs ds) (tk : Nat)
    (hk : ∀ b o, s.heap.get? b = some o → h'.get? b = some o) (ha : s.heap.get? a = none) (ho : h'.get? a = some (listOf vs.toArray n)) : Q (.ref a) { s with heap := h', toks := tk } :=
  k _ _ tk _ α (Ext.add I hk ha ho) (.d (.lst (.inr ⟨rfl, rfl⟩) (r.mono fun _ _ z => .inl z)))
theorem K1.mlist {ds : List D} {vs : List Value} {n : Nat} {h' : Heap} {a : Addr} (k : K1 O B Z α s Q (.m σ.length) (σ ++ [ds])) (I : Inv O B Z α σ s.heap) (r : RDs O Z vs ds) (tk : Nat)
    (hk : ∀ b o, s.heap.get? b = some o → h'.get? b = some o) (ha : s.heap.get? a = none) (ho : h'.get? a = some (listOf vs.toArray n)) : Q (.ref a) { s with heap := h', toks := tk } :=
  k _ _ tk _ _ (Ext.addM I hk ha ho r) (.m (by rw [← I.len]; simp))
theorem K1.tuple {ds : List D} {vs : List Value} {h' : Heap} {a : Addr} (k : K1 O B Z α s Q (.d (.tup ds)) σ) (I : Inv O B Z α σ s.heap) (r : RDs O Z vs ds) (tk : Nat)
    (hk : ∀ b o, s.heap.get? b = some o → h'.get? b = some o) (ha : s.heap.get? a = none) (ho : h'.get? a = some { cls := .type "tuple", data := .seq vs.toArray }) : Q (.ref a) { s with heap := h', toks := tk } :=
  k _ _ tk _ α (Ext.add I hk ha ho) (.d (.tup (.inr ⟨rfl, rfl⟩) rfl rfl (r.mono fun _ _ z => .inl z)))

theorem push_keeps (h : Heap) (o : Obj) : ∀ b p, h.get? b = some p → (h.push o).get? b = some p := fun _ _ e => Heap.get?_push_of_some o e

/-- a list's address and items, frozen or not -/
theorem wList_d (σ : Store) (x : D) : wList σ (.d x) = lst? x := by cases x <;> rfl
theorem list_of {v : Value} {w : W} {l : List D} (I : Inv O B Z α σ s.heap) (r : RW O Z α v w) (e : wList σ w = some l) :
    ∃ a vs n, v = .ref a ∧ s.heap.get? a = some (listOf (List.toArray vs) n) ∧ RDs O Z vs l := by
  cases r with
  | d r =>
    obtain ⟨b, vs, n, e1, z, r⟩ := r.isLst ((wList_d σ _).symm.trans e)
    exact ⟨b, vs, n, e1, I.led _ _ z, r⟩
  | m hi =>
    obtain ⟨vs, n, q, r⟩ := I.cell _ _ _ hi e
    exact ⟨_, vs, n, rfl, q, r⟩
theorem isList_of {h : Heap} {a : Addr} {vs : List Value} {n : Nat} (e : h.get? a = some (listOf vs.toArray n)) : h.IsList a vs.toArray := ⟨_, e, rfl, n, rfl⟩

theorem wD_of {v : Value} {w : W} {x : D} (r : RW O Z α v w) (e : wD w = some x) : RD O Z v x := by
  cases r with
  | d r => cases e; exact r
  | m _ => cases e
theorem asTru_of {v : Value} {w : W} {b : Bool} (r : RW O Z α v w) (e : asTru w = some b) : v = .bool b := by
  cases r with
  | d r =>
    cases r with
    | bool c => cases e; rfl
    | _ => cases e
  | m _ => cases e

theorem small_abs {a : Int} (h : small a = true) : a.natAbs < 2 ^ 62 := of_decide_eq_true h
theorem small_fits {a : Int} (h : small a = true) : -(2 ^ 62 : Int) < a ∧ a < 2 ^ 62 := by
  have := small_abs h
  omega

theorem dInts_cons (d : D) (ds : List D) : dInts (d :: ds) = (int? d).bind fun a => (dInts ds).map fun y => a :: y := by cases d <;> rfl
theorem IntsAre_of {vs : List Value} {ds : List D} (r : RDs O Z vs ds) : ∀ {ns : List Int}, dInts ds = some ns → IntsAre vs ns := by
  induction ds generalizing vs with
  | nil => intro ns e; cases r; cases e; exact .nil
  | cons d ds ih =>
    intro ns e
    cases r with
    | cons a b =>
      refine bE ((dInts_cons d ds).symm.trans e) fun i hi e => mE e fun y hy e => ?_
      obtain ⟨t, rfl⟩ := a.isInt hi
      subst e
      exact .cons i t (ih b hy)
theorem dInts_map (ns : List Int) : dInts (ns.map D.int) = some ns := by
  induction ns with
  | nil => rfl
  | cons a r ih => rw [List.map_cons, dInts, ih]; rfl
theorem RDs_ints {vs : List Value} {ns : List Int} (h : IntsAre vs ns) : RDs O Z vs (ns.map D.int) := by
  induction h with
  | nil => exact .nil
  | cons n t _ ih => exact .cons (.int n t) ih

/-! comparing -/
mutual
noncomputable def dPy : D → PyData
  | .int i => .int i
  | .bool b => .bool b
  | .tup l => .tuple (dPys l)
  | .lst l => .list (dPys l)
  | .opq _ => .none
noncomputable def dPys : List D → List PyData
  | [] => []
  | a :: x => dPy a :: dPys x
end
mutual
theorem reads_of {h : Heap} (led : ∀ a o, Z a o → h.get? a = some o) : ∀ (n : Nat) {v : Value} {d : D}, RD O Z v d → dPlain n d = true → ∃ as, Reads h v (dPy d) as
  | _, _, _, .int i t, _ => ⟨_, Reads.int i t⟩
  | n, _, _, .bool b, e => by cases n <;> simp [dPlain] at e
  | n, _, _, .opq _ _, e => by cases n <;> simp [dPlain] at e
  | 0, _, _, .tup _ _ _ _, e => by simp [dPlain] at e
  | 0, _, _, .lst _ _, e => by simp [dPlain] at e
  | n + 1, _, _, .tup z c q r, e => by
    obtain ⟨as, x⟩ := readsAll_of led n r (by simpa [dPlain] using e)
    rw [dPy]
    exact ⟨as, Reads.tuple (led _ _ z) c q (by simpa using x)⟩
  | n + 1, _, _, .lst z r, e => by
    obtain ⟨as, x⟩ := readsAll_of led n r (by simpa [dPlain] using e)
    rw [dPy]
    exact ⟨_, Reads.list (led _ _ z) rfl rfl (by simpa using x)⟩
theorem readsAll_of {h : Heap} (led : ∀ a o, Z a o → h.get? a = some o) : ∀ (n : Nat) {vs : List Value} {ds : List D}, RDs O Z vs ds → dPlains n ds = true → ∃ as, ReadsAll h vs (dPys ds) as
  | _, _, _, .nil, _ => ⟨_, by rw [dPys]; exact ReadsAll.nil⟩
  | n, _, _, .cons a b, e => by
    rw [dPlains, Bool.and_eq_true] at e
    obtain ⟨as, x⟩ := reads_of led n a e.1
    obtain ⟨bs, y⟩ := readsAll_of led n b e.2
    rw [dPys]
    exact ⟨_, ReadsAll.cons x y⟩
end
mutual
theorem lay_of : ∀ (n : Nat) (d : D), dPlain n d = true → (dPy d).canLay0 = true ∧ (dPy d).depth ≤ n
  | _, .int i, _ => by simp [dPy, PyData.canLay0, PyData.depth]
  | n, .bool b, e => by cases n <;> simp [dPlain] at e
  | n, .opq _, e => by cases n <;> simp [dPlain] at e
  | 0, .tup _, e => by simp [dPlain] at e
  | 0, .lst _, e => by simp [dPlain] at e
  | n + 1, .tup l, e => by
    have q := lays_of n l (by simpa [dPlain] using e)
    have q2 := q.2
    simp only [dPy, PyData.canLay0, PyData.depth, q.1, true_and]
    omega
  | n + 1, .lst l, e => by
    have q := lays_of n l (by simpa [dPlain] using e)
    have q2 := q.2
    simp only [dPy, PyData.canLay0, PyData.depth, q.1, true_and]
    omega
theorem lays_of : ∀ (n : Nat) (l : List D), dPlains n l = true → PyData.canLayAll0 (dPys l) = true ∧ PyData.depthAll (dPys l) ≤ n
  | n, [], _ => by simp [dPys, PyData.canLayAll0, PyData.depthAll]
  | n, a :: x, e => by
    rw [dPlains, Bool.and_eq_true] at e
    have h1 := lay_of n a e.1
    have h2 := lays_of n x e.2
    have a1 := h1.2
    have a2 := h2.2
    simp only [dPys, PyData.canLayAll0, PyData.depthAll, h1.1, h2.1, Bool.and_self, true_and]
    omega
end
mutual
theorem eqv_of : ∀ (n k : Nat) (a b : D), dPlain n a = true → dPlain k b = true → PyData.eqv (dPy a) (dPy b) = deq a b
  | n, k, .int i, .int j, _, _ => by
    simp only [dPy, PyData.eqv, deq]
    cases h : decide (i = j) <;> simp_all
  | n, k, .int _, .tup _, _, _ => by simp [dPy, PyData.eqv, deq]
  | n, k, .int _, .lst _, _, _ => by simp [dPy, PyData.eqv, deq]
  | n, k, .tup _, .int _, _, _ => by simp [dPy, PyData.eqv, deq]
  | n, k, .lst _, .int _, _, _ => by simp [dPy, PyData.eqv, deq]
  | n, k, .tup _, .lst _, _, _ => by simp [dPy, PyData.eqv, deq]
  | n, k, .lst _, .tup _, _, _ => by simp [dPy, PyData.eqv, deq]
  | 0, _, .tup _, .tup _, e, _ => by simp [dPlain] at e
  | 0, _, .lst _, .lst _, e, _ => by simp [dPlain] at e
  | _ + 1, 0, .tup _, .tup _, _, e => by simp [dPlain] at e
  | _ + 1, 0, .lst _, .lst _, _, e => by simp [dPlain] at e
  | n + 1, k + 1, .tup x, .tup y, e, f => by
    simp only [dPy, PyData.eqv, deq]
    exact eqvs_of n k x y (by simpa [dPlain] using e) (by simpa [dPlain] using f)
  | n + 1, k + 1, .lst x, .lst y, e, f => by
    simp only [dPy, PyData.eqv, deq]
    exact eqvs_of n k x y (by simpa [dPlain] using e) (by simpa [dPlain] using f)
  | n, k, .bool _, b, e, _ => by cases n <;> simp [dPlain] at e
  | n, k, .opq _, b, e, _ => by cases n <;> simp [dPlain] at e
  | n, k, .int _, .bool _, _, f => by cases k <;> simp [dPlain] at f
  | n, k, .tup _, .bool _, _, f => by cases k <;> simp [dPlain] at f
  | n, k, .lst _, .bool _, _, f => by cases k <;> simp [dPlain] at f
  | n, k, .int _, .opq _, _, f => by cases k <;> simp [dPlain] at f
  | n, k, .tup _, .opq _, _, f => by cases k <;> simp [dPlain] at f
  | n, k, .lst _, .opq _, _, f => by cases k <;> simp [dPlain] at f
theorem eqvs_of : ∀ (n k : Nat) (x y : List D), dPlains n x = true → dPlains k y = true → PyData.eqvAll (dPys x) (dPys y) = deqs x y
  | _, _, [], [], _, _ => by simp [dPys, PyData.eqvAll, deqs]
  | _, _, [], _ :: _, _, _ => by simp [dPys, PyData.eqvAll, deqs]
  | _, _, _ :: _, [], _, _ => by simp [dPys, PyData.eqvAll, deqs]
  | n, k, a :: x, b :: y, e, f => by
    rw [dPlains, Bool.and_eq_true] at e f
    simp only [dPys, PyData.eqvAll, deqs]
    rw [eqv_of n k a b e.1 f.1, eqvs_of n k x y e.2 f.2]
end
theorem shaped_of {d : D} (e : dPlain 8 d = true) : SeqAt.shaped (dPy d) = true := by
  have l := lay_of 8 d e
  unfold SeqAt.shaped
  rw [l.1, Bool.true_and]
  exact decide_eq_true (Nat.le_trans l.2 (by decide))

variable {prog : Program} {w : World} {A : Around} {E : Value → Shared → Prop}

structure Room (A : Around) (n : Nat) : Prop where
  depth : A.depth + n < recursionLimit
  units : A.units + 4 * n + 100 < cLine
  handled : A.handled = none

theorem Room.in1 {A : Around} {n : Nat} (h : Room A (n + 1)) : Room A.in1 n :=
  ⟨by have := h.depth; show A.depth + n < _; omega, by have := h.units; show A.units + 1 + 4 * n + 100 < _; omega, h.handled⟩
theorem Room.le {A : Around} {n m : Nat} (h : Room A n) (k : m ≤ n) : Room A m :=
  ⟨by have := h.depth; omega, by have := h.units; omega, h.handled⟩

noncomputable def cOp : Cop → CmpOp
  | .eq => .Eq | .ne => .NotEq | .lt => .Lt | .le => .LtE | .gt => .Gt | .ge => .GtE

theorem op_cmp (I : Inv O B Z α σ s.heap) (rm : Room A 0) {o : Cop} {a b : Value} {x y : D} {z : Bool} (ra : RD O Z a x) (rb : RD O Z b y) (e : dCmp o x y = some z) (k : Q (.bool z) s) :
    wpAny (model prog w) A (compareOp (cOp o) a b) Q E s := by
  have hu : A.units + 64 < cLine := by have := rm.units; omega
  have eqs : ∀ {x y : D}, RD O Z a x → RD O Z b y → dPlain 8 x && dPlain 8 y → ∃ as bs, Reads s.heap a (dPy x) as ∧ Reads s.heap b (dPy y) bs ∧ SeqAt.shaped (dPy x) = true ∧ SeqAt.shaped (dPy y) = true ∧ PyData.eqv (dPy x) (dPy y) = deq x y := by
    intro x y ra rb h
    rw [Bool.and_eq_true] at h
    obtain ⟨as, pa⟩ := reads_of I.led 8 ra h.1
    obtain ⟨bs, pb⟩ := reads_of I.led 8 rb h.2
    exact ⟨as, bs, pa, pb, shaped_of h.1, shaped_of h.2, eqv_of 8 8 x y h.1 h.2⟩
  cases o with
  | eq =>
    simp only [dCmp] at e
    split at e
    · rename_i h
      cases e
      obtain ⟨as, bs, pa, pb, sa, sb, q⟩ := eqs ra rb h
      exact eq_dataH pa pb sa sb hu (by rw [q]; exact k)
    · cases e
  | ne =>
    simp only [dCmp] at e
    split at e
    · rename_i h
      cases e
      obtain ⟨as, bs, pa, pb, sa, sb, q⟩ := eqs ra rb h
      exact ne_dataH pa pb sa sb hu (by rw [q]; exact k)
    · cases e
  | lt =>
    refine bE ((dC_lt x y).symm.trans e) fun i hi e => mR (R := fun z => Q (.bool z) s) e k fun j hj k => ?_
    obtain ⟨t, rfl⟩ := ra.isInt hi
    obtain ⟨u, rfl⟩ := rb.isInt hj
    exact lt_int k
  | le =>
    refine bE ((dC_le x y).symm.trans e) fun i hi e => mR (R := fun z => Q (.bool z) s) e k fun j hj k => ?_
    obtain ⟨t, rfl⟩ := ra.isInt hi
    obtain ⟨u, rfl⟩ := rb.isInt hj
    exact le_int k
  | gt =>
    refine bE ((dC_gt x y).symm.trans e) fun i hi e => mR (R := fun z => Q (.bool z) s) e k fun j hj k => ?_
    obtain ⟨t, rfl⟩ := ra.isInt hi
    obtain ⟨u, rfl⟩ := rb.isInt hj
    exact gt_int k
  | ge =>
    refine bE ((dC_ge x y).symm.trans e) fun i hi e => mR (R := fun z => Q (.bool z) s) e k fun j hj k => ?_
    obtain ⟨t, rfl⟩ := ra.isInt hi
    obtain ⟨u, rfl⟩ := rb.isInt hj
    exact ge_int k

end
end Mine


namespace Mine
section
variable {O : Nat → D} {B : Heap} {Z : Zd} {α : List Addr} {σ : Store} {s : Shared} {Q : Value → Shared → Prop}
variable {prog : Program} {w : World} {A : Around} {E : Value → Shared → Prop}

noncomputable def bOp : Bop → Operator
  | .add => .Add | .sub => .Sub | .mul => .Mult | .div => .FloorDiv | .mod => .Mod | .pow => .Pow

theorem bits_of_small {a : Int} (h : small a = true) : Builtin.Int.intBits a ≤ 64 := by
  have := small_abs h
  exact intBits_le (by omega)

/-- two lists are joined: the new object -/
theorem add_raw {l b : Addr} {vs ws : List Value} {n n2 : Nat} (hl : s.heap.get? l = some (listOf vs.toArray n)) (hb : s.heap.get? b = some (listOf ws.toArray n2)) (hsz : vs.length + ws.length ≤ sizeLine)
    (h : Q (.ref s.heap.objs.size) { s with heap := s.heap.push { cls := .type "list", data := .seq (vs ++ ws).toArray } }) :
    wpAny (model prog w) A (binaryOp .Add (.ref l) (.ref b)) Q E s := by
  have e : vs.toArray ++ ws.toArray = (vs ++ ws).toArray := by simp
  refine concat_meets ⟨_, hl, rfl⟩ ⟨_, hb, rfl⟩ noFill_list_add seq_list_add PySem.F.slot_list_add PySem.F.entry_list_add (PySem.F.args_list_add_2 _ _) (list_addW l b vs.toArray ws.toArray n n2 none none #[] #[] (by simpa using hsz)) ⟨hl, hb, ?_⟩
  rw [e]
  exact h

/-- a list is repeated: the new object -/
theorem mul_raw {l : Addr} {vs : List Value} {k : Nat} {x : Int} {u : Tok} (hl : s.heap.get? l = some (listOf vs.toArray k))
    (hlo : -(2 ^ 63 : Int) ≤ x) (hhi : x < 2 ^ 63) (hsz : vs.toArray.size * x.toNat ≤ 2 ^ 24)
    (h : Q (.ref s.heap.objs.size) { s with heap := s.heap.push { cls := .type "list", data := .seq (List.foldl (fun x1 x2 => x1 ++ x2) #[] (List.replicate (if vs.toArray.isEmpty = true then 0 else x.toNat) vs.toArray)) } }) :
    wpAny (model prog w) A (binaryOp .Mult (.ref l) (.int x u)) Q E s :=
  wpAny_binaryOp_repeat_ref (T := "list") (U := "int") (by decide) ⟨_, hl, rfl⟩ (fun s' => typeIs_int s' x u) noFill_list_mul F.fills_int_mul F.slot_int_rmul repeat_list F.slot_int_index.lookup
    (call_meets F.slot_int_rmul (typeIs_int s x u) F.entry_int_rmul (F.args_int_rmul_2 _ _) (int___rmul___int_list x u l vs.toArray k)
      ⟨hl, rfl, ⟨_, hl, rfl⟩, call_meets F.slot_list_mul ⟨_, hl, rfl⟩ F.entry_list_mul (F.args_list_mul_2 _ _)
        (AutoListH.list___mul___list_int_3 l vs.toArray k x u (by simp [Builtin.List.listFitsIndex]; omega) (by omega) (by simp [Builtin.List.listTooLong, sizeLine]; omega))
        ⟨hl, h⟩⟩)

theorem foldl_app (l : List Value) : ∀ (n : Nat) (acc : Array Value), List.foldl (fun x1 x2 => x1 ++ x2) acc (List.replicate n l.toArray) = (acc.toList ++ (List.replicate n l).flatten).toArray
  | 0, acc => by simp
  | n + 1, acc => by
    rw [List.replicate_succ, List.foldl_cons, foldl_app l n, List.replicate_succ, List.flatten_cons]
    simp
theorem mul_items (vs : List Value) (k : Nat) : List.foldl (fun x1 x2 => x1 ++ x2) #[] (List.replicate (if vs.toArray.isEmpty = true then 0 else k) vs.toArray) = ((List.replicate k vs).flatten).toArray := by
  cases vs with
  | nil =>
    have : ∀ n, (List.replicate n ([] : List Value)).flatten = [] := by
      intro n
      induction n with
      | zero => rfl
      | succ n ih => rw [List.replicate_succ, List.flatten_cons, ih]; rfl
    simp [this]
  | cons v vs => rw [if_neg (by simp), foldl_app]; simp
theorem RDs.rep {vs : List Value} {ds : List D} (r : RDs O Z vs ds) : ∀ n : Nat, RDs O Z (List.replicate n vs).flatten (List.replicate n ds).flatten
  | 0 => .nil
  | n + 1 => by rw [List.replicate_succ, List.replicate_succ, List.flatten_cons, List.flatten_cons]; exact r.append (RDs.rep r n)

theorem no_pylong {a b : Int} (h : small b = true) : Builtin.divisionGoesByPylong a b = false := by
  refine PyProof.noPylong_of_log2 ?_
  have h1 := small_abs h
  by_cases h0 : b.natAbs = 0
  · rw [h0]; decide
  · have := (Nat.log2_lt h0).mpr h1
    omega

theorem big_line : big ≤ sizeLine := by rw [sizeLine_eq]; decide

/-- mul, with what is left to the caller: what becomes of the new list -/
theorem op_rep (I : Inv O B Z α σ s.heap) {a b : Value} {l : List D} {n : Int} {z : D} (ra : RD O Z a (.lst l)) (rb : RD O Z b (.int n)) (e : dBin .mul (.lst l) (.int n) = some z)
    (k : ∀ vs, RDs O Z vs (List.replicate n.toNat l).flatten → z = .lst (List.replicate n.toNat l).flatten → Q (.ref s.heap.objs.size) { s with heap := s.heap.push (listOf vs.toArray 0) }) :
    wpAny (model prog w) A (binaryOp .Mult a b) Q E s := by
  obtain ⟨t, rfl⟩ := rb.isInt rfl
  obtain ⟨a1, vs1, n1, rfl, z0, r⟩ := ra.isLst rfl
  refine iE (show (if (small n && decide (l.length * n.toNat ≤ big)) = true then some (D.lst (List.replicate n.toNat l).flatten) else none) = some z from e) fun h e => ?_
  have f := small_fits (and_l h)
  have hl := r.length
  refine mul_raw (I.led _ _ z0) (by omega) (by omega) ?_ ?_
  · rw [List.size_toArray, hl]; exact Nat.le_trans (of_decide_eq_true (and_r h)) (by decide)
  · rw [mul_items]
    exact k _ (r.rep _) (Option.some.inj e).symm

theorem op_bin (I : Inv O B Z α σ s.heap) {o : Bop} {a b : Value} {x y z : D} (ra : RD O Z a x) (rb : RD O Z b y) (e : dBin o x y = some z) (k : K1 O B Z α s Q (.d z) σ) :
    wpAny (model prog w) A (binaryOp (bOp o) a b) Q E s := by
  cases o with
  | add =>
    refine oE ((dB_add x y).symm.trans e) (fun e => bE e fun i hi e => mR (R := fun z => K1 O B Z α s Q (.d z) σ) e k fun j hj k => ?_) (fun e => bE e fun l hl e => bE e fun m hm e => iR (R := fun z => K1 O B Z α s Q (.d z) σ) e k fun h k => ?_)
    · obtain ⟨t, rfl⟩ := ra.isInt hi
      obtain ⟨u, rfl⟩ := rb.isInt hj
      exact add_int (k.now I (.int _ _) _)
    · obtain ⟨a1, vs1, n1, rfl, z1, r1⟩ := ra.isLst hl
      obtain ⟨a2, vs2, n2, rfl, z2, r2⟩ := rb.isLst hm
      rw [← r1.length, ← r2.length] at h
      exact add_raw (I.led _ _ z1) (I.led _ _ z2) (Nat.le_trans h big_line) (k.list I (r1.append r2) s.toks (push_keeps _ _) (get_top_none _) (Heap.get?_push_size _ rfl))
  | sub =>
    refine bE ((dB_sub x y).symm.trans e) fun i hi e => mR (R := fun z => K1 O B Z α s Q (.d z) σ) e k fun j hj k => ?_
    obtain ⟨t, rfl⟩ := ra.isInt hi
    obtain ⟨u, rfl⟩ := rb.isInt hj
    exact sub_int (k.now I (.int _ _) _)
  | mul =>
    refine oE ((dB_mul x y).symm.trans e) (fun e => bE e fun i hi e => bE e fun j hj e => iR (R := fun z => K1 O B Z α s Q (.d z) σ) e k fun h k => ?_) (fun e => bE e fun l hl e => bE e fun j hj e => ?_)
    · obtain ⟨t, rfl⟩ := ra.isInt hi
      obtain ⟨u, rfl⟩ := rb.isInt hj
      exact mul_int (k.now I (.int _ _) _) (IntMulOk.of_left (bits_of_small h))
    · refine op_rep I (lst?_eq hl ▸ ra) (int?_eq hj ▸ rb) e fun vs r' ez => ?_
      subst ez
      exact k.list I r' s.toks (push_keeps _ _) (get_top_none _) (Heap.get?_push_size _ rfl)
  | div =>
    refine bE ((dB_div x y).symm.trans e) fun i hi e => bE e fun j hj e => iR (R := fun z => K1 O B Z α s Q (.d z) σ) e k fun h k => ?_
    obtain ⟨t, rfl⟩ := ra.isInt hi
    obtain ⟨u, rfl⟩ := rb.isInt hj
    exact floordiv_int (of_decide_eq_true (and_r h)) (k.now I (.int _ _) _) (.inl (no_pylong (and_l h)))
  | mod =>
    refine bE ((dB_mod x y).symm.trans e) fun i hi e => bE e fun j hj e => iR (R := fun z => K1 O B Z α s Q (.d z) σ) e k fun h k => ?_
    obtain ⟨t, rfl⟩ := ra.isInt hi
    obtain ⟨u, rfl⟩ := rb.isInt hj
    exact mod_int' (of_decide_eq_true (and_r h)) (k.now I (.int _ _) _)
  | pow =>
    refine bE ((dB_pow x y).symm.trans e) fun i hi e => bE e fun j hj e => iR (R := fun z => K1 O B Z α s Q (.d z) σ) e k fun h k => ?_
    obtain ⟨t, rfl⟩ := ra.isInt hi
    obtain ⟨u, rfl⟩ := rb.isInt hj
    have h1 := small_abs (and_l (and_l h))
    have h2 := of_decide_eq_true (and_r h)
    exact pow_int_small (of_decide_eq_true (and_r (and_l h))) (by omega) (by omega) (k.now I (.int _ _) _)

/-! items and slices -/
theorem op_idx_list {value slice : PySem.Expr} (I : Inv O B Z α σ s.heap) {v b : Value} {x : W} {l : List D} {n : Int} {d : D} (ra : RW O Z α v x) (el : wList σ x = some l) (rb : RD O Z b (.int n)) (e : dIdx l n = some d)
    (hs : ∀ a k u, subscripted slice false (.ref a) (.int k u) = operate [.ref a, .int k u] (getItem (.ref a) (.int k u))) (k : K1 O B Z α s Q (.d d) σ) :
    wpAny (model prog w) A (subscriptTail value slice v b) Q E s := by
  obtain ⟨a, vs, m, rfl, hg, r⟩ := list_of I ra el
  cases rb with
  | int _ t =>
    simp only [dIdx] at e
    split at e
    · rename_i h
      simp only [Bool.and_eq_true, decide_eq_true_eq] at h
      have f := small_fits h.2
      obtain ⟨u, hu, ru⟩ := r.get e
      exact tail_any (isList_of hg).typeIs slot_list_getitem.lookup (wpAny_getItem_list (isList_of hg) h.1 (by omega) (by simpa using hu) (k.now I ru s.toks)) (hs _ _ _)
    · cases e

theorem seqIndex_nat {k : Int} {n : Nat} (h : 0 ≤ k) (h2 : k.toNat < n) : seqIndex? k n = some k.toNat := by
  unfold seqIndex?
  rw [if_neg (Int.not_lt.mpr h)]
  show (if (decide (0 ≤ k) && decide (k < (n : Int))) = true then some k.toNat else none) = some k.toNat
  rw [if_pos (by simp only [Bool.and_eq_true, decide_eq_true_eq]; omega)]

theorem op_idx_tup {value slice : PySem.Expr} (I : Inv O B Z α σ s.heap) {v b : Value} {l : List D} {n : Int} {d : D} (ra : RD O Z v (.tup l)) (rb : RD O Z b (.int n)) (e : dIdx l n = some d)
    (hs : ∀ a k u, subscripted slice false (.ref a) (.int k u) = operate [.ref a, .int k u] (getItem (.ref a) (.int k u))) (k : K1 O B Z α s Q (.d d) σ) :
    wpAny (model prog w) A (subscriptTail value slice v b) Q E s := by
  cases ra with
  | tup z c q r =>
    cases rb with
    | int _ t =>
      simp only [dIdx] at e
      split at e
      · rename_i h
        simp only [Bool.and_eq_true, decide_eq_true_eq] at h
        have f := small_fits h.2
        obtain ⟨u, hu, ru⟩ := r.get e
        have hlt := (List.getElem?_eq_some_iff.mp hu).1
        exact item_tupleT ⟨_, I.led _ _ z, c, _, q⟩ (by omega) (by omega) (seqIndex_nat h.1 hlt) hu (k.now I ru s.toks) (hs _ _ _)
      · cases e
end
end Mine


namespace Mine
section
variable {O : Nat → D} {B : Heap} {Z : Zd} {α : List Addr} {σ : Store} {s : Shared} {Q : Value → Shared → Prop}
variable {prog : Program} {w : World} {A : Around} {E : Value → Shared → Prop}

/-- a slice of a list, the slice object just made -/
theorem op_slice {value slice : PySem.Expr} (I : Inv O B Z α σ s.heap) {v vl vu vk : Value} {x : W} {l l' : List D} {lo hi st : Option Int} {ops : Addr → Addr → List Value}
    (ra : RW O Z α v x) (el : wList σ x = some l) (pl : IsPart vl lo) (pu : IsPart vu hi) (pk : IsPart vk st) (h0 : st ≠ some 0) (hb : l.length ≤ big)
    (hp : ∀ vs : List Value, RDs O Z vs l → RDs O Z (slicePick vs.toArray lo hi st).toList l')
    (hs : ∀ a b, subscripted slice false (.ref a) (.ref b) = operate (ops a b) (getItem (.ref a) (.ref b))) (k : K1 O B Z α s Q (.d (.lst l')) σ) :
    wpAny (model prog w) A (subscriptTail value slice v (.ref s.heap.objs.size)) Q E { s with heap := s.heap.push { cls := .type "slice", data := .fields #[vl, vu, vk] } } := by
  obtain ⟨a, vs, m, rfl, hg, r⟩ := list_of I ra el
  have hg' := push_keeps s.heap { cls := .type "slice", data := .fields #[vl, vu, vk] } _ _ hg
  refine tail_any (s := { s with heap := s.heap.push { cls := .type "slice", data := .fields #[vl, vu, vk] } }) (isList_of hg').typeIs slot_list_getitem.lookup
    (wpAny_getItem_list_slice (isList_of hg') (Heap.IsSliceOf.new ..) pl pu pk h0 ?_ (by rw [List.size_toArray, r.length]; exact Nat.le_trans hb big_line)) (hs _ _)
  have e : slicePick vs.toArray lo hi st = (slicePick vs.toArray lo hi st).toList.toArray := by simp
  have none2 : s.heap.get? (s.heap.push { cls := .type "slice", data := .fields #[vl, vu, vk] }).objs.size = none := by
    rw [Heap.size_push]
    cases q : s.heap.get? (s.heap.objs.size + 1) with
    | none => rfl
    | some o => exact absurd (Heap.lt_size q) (Nat.not_lt.mpr (Nat.le_succ _))
  refine k.list I (vs := (slicePick vs.toArray lo hi st).toList) (n := 0) (hp vs r) s.toks (fun b o q => push_keeps _ _ _ _ (push_keeps _ _ _ _ q)) none2 ?_
  rw [← e]
  exact Heap.get?_push_size _ rfl

theorem pick_upto {vs : List Value} {l : List D} {k : Int} (h : 0 ≤ k) (r : RDs O Z vs l) : RDs O Z (slicePick vs.toArray none (some k) none).toList (l.take k.toNat) := by
  obtain ⟨n, rfl⟩ := Int.eq_ofNat_of_zero_le h
  rw [slicePick_upto']
  exact r.take _
theorem pick_from {vs : List Value} {l : List D} {k : Int} (h : 0 ≤ k) (r : RDs O Z vs l) : RDs O Z (slicePick vs.toArray (some k) none none).toList (l.drop k.toNat) := by
  obtain ⟨n, rfl⟩ := Int.eq_ofNat_of_zero_le h
  rw [slicePick_from']
  exact r.drop _
theorem pick_rev {vs : List Value} {l : List D} (r : RDs O Z vs l) : RDs O Z (slicePick vs.toArray none none (some (-1))).toList l.reverse := by
  rw [krv_pick]
  exact r.reverse

/-! the built-ins -/
theorem insI_perm (a : Int) : ∀ l : List Int, (insI a l).Perm (a :: l)
  | [] => .refl _
  | b :: r => by
    rw [insI]
    split
    · exact .refl _
    · exact ((insI_perm a r).cons b).trans (.swap a b r)
theorem sortI_perm : ∀ l : List Int, (sortI l).Perm l
  | [] => .refl _
  | a :: r => (insI_perm a (sortI r)).trans ((sortI_perm r).cons a)
theorem insI_sorted (a : Int) : ∀ l : List Int, l.Pairwise (· ≤ ·) → (insI a l).Pairwise (· ≤ ·)
  | [], _ => by simp [insI]
  | b :: r, h => by
    obtain ⟨h1, h2⟩ := List.pairwise_cons.mp h
    rw [insI]
    split
    · rename_i hab
      exact List.pairwise_cons.mpr ⟨fun x hx => by
        rcases List.mem_cons.mp hx with rfl | hx
        · exact hab
        · exact Int.le_trans hab (h1 x hx), h⟩
    · rename_i hab
      refine List.pairwise_cons.mpr ⟨fun x hx => ?_, insI_sorted a r h2⟩
      rcases List.mem_cons.mp ((insI_perm a r).mem_iff.mp hx) with rfl | hx
      · omega
      · exact h1 x hx
theorem sortI_sorted : ∀ l : List Int, (sortI l).Pairwise (· ≤ ·)
  | [] => .nil
  | a :: r => insI_sorted a _ (sortI_sorted r)

theorem maxI_spec : ∀ (r : List Int) (a : Int), maxI a r ∈ a :: r ∧ ∀ x ∈ a :: r, x ≤ maxI a r
  | [], a => by simp [maxI]
  | b :: r, a => by
    rw [maxI]
    obtain ⟨h1, h2⟩ := maxI_spec r (if a < b then b else a)
    refine ⟨?_, fun x hx => ?_⟩
    · rcases List.mem_cons.mp h1 with h | h
      · rw [h]; split <;> simp
      · exact List.mem_cons_of_mem _ (List.mem_cons_of_mem _ h)
    · have h3 := h2 _ (List.mem_cons_self ..)
      rcases List.mem_cons.mp hx with rfl | hx
      · split at h3 <;> (try split) <;> omega
      · rcases List.mem_cons.mp hx with rfl | hx
        · split at h3 <;> (try split) <;> omega
        · exact h2 x (List.mem_cons_of_mem _ hx)

theorem call_max_ints {l : Addr} {vs : List Value} {ns : List Int} (hh : A.handled = none) (hl : s.heap.IsList l vs.toArray) (hi : IntsAre vs ns) (hne : 0 < ns.length)
    (h : ∀ h' M (t : Tok) tk, (∀ b o, s.heap.get? b = some o → h'.get? b = some o) → M ∈ ns → (∀ a, a ∈ ns → a ≤ M) → Q (.int M t) { s with heap := h', toks := tk }) :
    wpAny (model prog w) A (call (.builtin "max") [.ref l]) Q E s := by
  obtain ⟨xs, e⟩ := hi.allInts.items
  have hns : ns = xs.toList.map (·.1) := by
    rw [← hi.numsOf, ← nums_intItems, ← e]
  have hsz : 0 < xs.size := by
    have h3 := hne; rw [hns, List.length_map, Array.length_toList] at h3; exact h3
  rw [e] at hl
  refine max_intList hh hl hsz fun v h' tk hv hk => ?_
  obtain ⟨t, rfl⟩ := intItems_at hv
  obtain ⟨h1, h2⟩ := argBest_gt (numAt xs) (xs.size - 1)
  refine h _ _ t tk hk ?_ fun a ha => ?_
  · rw [hns, numAt_eq]; exact getD_mem (by rw [List.length_map, Array.length_toList]; omega)
  · rw [hns] at ha
    obtain ⟨j, hj, rfl⟩ := mem_getD ha
    rw [List.length_map, Array.length_toList] at hj
    rw [← numAt_eq]; exact h2 j (by omega)

/-- what is wanted of the sort that is handed in -/
noncomputable def SrtOk (O : Nat → D) (B : Heap) (prog : Program) (w : World) (b : Nat) (srt : List D → Option (List D)) : Prop :=
  ∀ (A : Around) (s : Shared) (E : Value → Shared → Prop) (Z : Zd) (α : List Addr) (σ : Store) (v : Value) (x : W) (l l' : List D) (Q : Value → Shared → Prop), Room A b → Inv O B Z α σ s.heap → RW O Z α v x → wList σ x = some l → srt l = some l' →
    K1 O B Z α s Q (.d (.lst l')) σ → wpAny (model prog w) A (call (.builtin "sorted") [v]) Q E s

noncomputable def bFn : Blt → Value
  | .abs => .builtin "abs" | .len => .builtin "len" | .max => .builtin "max" | .min => .builtin "min" | .sorted => .builtin "sorted"
  | .list => .type "list" | .int => .type "int"

inductive RWs (O : Nat → D) (Z : Zd) (α : List Addr) : List Value → List W → Prop
  | nil : RWs O Z α [] []
  | cons {v : Value} {x : W} {vs : List Value} {xs : List W} : RW O Z α v x → RWs O Z α vs xs → RWs O Z α (v :: vs) (x :: xs)

theorem list_copy (I : Inv O B Z α σ s.heap) {v : Value} {x : W} {l : List D} (ra : RW O Z α v x) (el : wList σ x = some l) (hb : l.length ≤ big)
    (k : ∀ h' vs n, (∀ b o, s.heap.get? b = some o → h'.get? b = some o) → h'.get? s.heap.objs.size = some (listOf (List.toArray vs) n) → RDs O Z vs l → Q (.ref s.heap.objs.size) { s with heap := h' }) :
    wpAny (model prog w) A (call (.type "list") [v]) Q E s := by
  obtain ⟨a, vs, m, rfl, hg, r⟩ := list_of I ra el
  exact call_list_seq a (.inl rfl) hg rfl rfl (fun h' c' hk ho => k h' vs c' hk ho r) (by rw [List.size_toArray, r.length]; exact Nat.le_trans hb big_line)

theorem top1_none (h : Heap) : h.get? (h.objs.size + 1) = none := by
  cases q : h.get? (h.objs.size + 1) with
  | none => rfl
  | some o => exact absurd (Heap.lt_size q) (Nat.not_lt.mpr (Nat.le_succ _))
theorem RWs.one {vs : List Value} {xs : List W} (r : RWs O Z α vs xs) : ∀ {x : W}, one? xs = some x → ∃ v, vs = [v] ∧ RW O Z α v x := by
  cases r with
  | nil => intro x h; cases h
  | cons a r => cases r with
    | nil => intro x h; cases h; exact ⟨_, rfl, a⟩
    | cons _ _ => intro x h; cases h
theorem RWs.two {vs : List Value} {xs : List W} (r : RWs O Z α vs xs) : ∀ {p : W × W}, two? xs = some p → ∃ v u, vs = [v, u] ∧ RW O Z α v p.1 ∧ RW O Z α u p.2 := by
  cases r with
  | nil => intro x h; cases h
  | cons a r => cases r with
    | nil => intro x h; cases h
    | cons b r => cases r with
      | nil => intro x h; cases h; exact ⟨_, _, rfl, a, b⟩
      | cons _ _ => intro x h; cases h
theorem op_blt {srt : List D → Option (List D)} {bb : Nat} (hsrt : SrtOk O B prog w bb srt) (I : Inv O B Z α σ s.heap) (rm : Room A bb) {b : Blt} {vs : List Value} {xs : List W} {d : D} (ra : RWs O Z α vs xs) (e : evBlt srt σ b xs = some d) (k : K1 O B Z α s Q (.d d) σ) :
    wpAny (model prog w) A (call (bFn b) vs) Q E s := by
  have hh := rm.handled
  cases b with
  | abs =>
    refine bE ((eB_abs srt σ xs).symm.trans e) fun x hx e => mR (R := fun z => K1 O B Z α s Q (.d z) σ) e k fun i hi k => ?_
    obtain ⟨v, rfl, r⟩ := ra.one hx
    obtain ⟨t, rfl⟩ := r.isI hi
    exact call_abs_int fun u tk => k.now I (.int _ _) tk
  | int =>
    refine bE ((eB_int srt σ xs).symm.trans e) fun x hx e => mR (R := fun z => K1 O B Z α s Q (.d z) σ) e k fun i hi k => ?_
    obtain ⟨v, rfl, r⟩ := ra.one hx
    obtain ⟨t, rfl⟩ := r.isI hi
    exact call_int_int (k.now I (.int _ _) s.toks)
  | len =>
    refine bE ((eB_len srt σ xs).symm.trans e) fun x hx e => bE e fun l el e => iR (R := fun z => K1 O B Z α s Q (.d z) σ) e k fun hb k => ?_
    obtain ⟨v, rfl, r1⟩ := ra.one hx
    obtain ⟨a, vs, m, rfl, hg, r⟩ := list_of I r1 el
    have hl := r.length
    have h63 : big < 2 ^ 63 := by decide
    refine PyProof.Rows.len_list (isList_of hg) (by rw [List.size_toArray]; omega) ?_
    rw [List.size_toArray, hl]
    exact k.now I (.int _ _) _
  | min =>
    refine bE ((eB_min srt σ xs).symm.trans e) fun p hp e => bE e fun i hi e => mR (R := fun z => K1 O B Z α s Q (.d z) σ) e k fun j hj k => ?_
    obtain ⟨v, u, rfl, r1, r2⟩ := ra.two hp
    obtain ⟨t1, rfl⟩ := r1.isI hi
    obtain ⟨t2, rfl⟩ := r2.isI hj
    refine min_two_ints hh fun h' tk hk => ?_
    have key : ∀ v, RD O Z v (.int (if j < i then j else i)) → Q v { s with heap := h', toks := tk } := fun v r => k v h' tk Z α (Ext.of_keeps I hk) (.d r)
    by_cases hc : j < i
    · rw [if_pos hc] at key ⊢; exact key _ (.int _ _)
    · rw [if_neg hc] at key ⊢; exact key _ (.int _ _)
  | max =>
    refine oE ((eB_max srt σ xs).symm.trans e) (fun e => bE e fun p hp e => bE e fun i hi e => mR (R := fun z => K1 O B Z α s Q (.d z) σ) e k fun j hj k => ?_) (fun e => bE e fun x hx e => bE e fun l el e => bE e fun ns ei e => ?_)
    · obtain ⟨v, u, rfl, r1, r2⟩ := ra.two hp
      obtain ⟨t1, rfl⟩ := r1.isI hi
      obtain ⟨t2, rfl⟩ := r2.isI hj
      refine max_two_ints hh fun h' tk hk => ?_
      have key : ∀ v, RD O Z v (.int (if j > i then j else i)) → Q v { s with heap := h', toks := tk } := fun v r => k v h' tk Z α (Ext.of_keeps I hk) (.d r)
      by_cases hc : j > i
      · rw [if_pos hc] at key ⊢; exact key _ (.int _ _)
      · rw [if_neg hc] at key ⊢; exact key _ (.int _ _)
    · cases ns with
      | nil => cases e
      | cons a0 ns =>
        have k2 := sR (R := fun z => K1 O B Z α s Q (.d z) σ) e k
        obtain ⟨v, rfl, r1⟩ := ra.one hx
        obtain ⟨a, vs, m, rfl, hg, r⟩ := list_of I r1 el
        refine call_max_ints hh (isList_of hg) (IntsAre_of r ei) (by simp) fun h' M t tk hk h1 h2 => ?_
        obtain ⟨g1, g2⟩ := maxI_spec ns a0
        have : M = maxI a0 ns := Int.le_antisymm (g2 M h1) (h2 _ g1)
        subst this
        exact k2 _ h' tk Z α (Ext.of_keeps I hk) (.d (.int _ _))
  | list =>
    refine bE ((eB_list srt σ xs).symm.trans e) fun x hx e => bE e fun l el e => iR (R := fun z => K1 O B Z α s Q (.d z) σ) e k fun hb k => ?_
    obtain ⟨v, rfl, r1⟩ := ra.one hx
    exact list_copy I r1 el hb fun h' vs n hk ho r => k.list I r s.toks hk (get_top_none _) ho
  | sorted =>
    refine bE ((eB_sorted srt σ xs).symm.trans e) fun x hx e => bE e fun l el e => mR (R := fun z => K1 O B Z α s Q (.d z) σ) e k fun l' es k => ?_
    obtain ⟨v, rfl, r1⟩ := ra.one hx
    cases ei : dInts l with
    | none =>
      unfold dSort at es
      rw [ei] at es
      exact hsrt A s E Z α σ _ _ l l' Q rm I r1 el es k
    | some ns =>
      unfold dSort at es
      rw [ei] at es
      refine iR (R := fun z => K1 O B Z α s Q (.d (.lst z)) σ) es k fun h64 k => ?_
      obtain ⟨a, vs, m, rfl, hg, r⟩ := list_of I r1 el
      have hi := IntsAre_of r ei
      refine sorted_ints (isList_of hg) hi (by rw [hi.length]; exact h64) fun out ns' a1 a2 a3 => ?_
      have : ns' = sortI ns := lks_uniq (a2.trans (sortI_perm ns).symm) a3 (sortI_sorted ns)
      subst this
      obtain ⟨e', he⟩ := sortedAll_at s.heap vs out
      exact k.list I (vs := out.toList) (n := e') (RDs_ints a1) s.toks (fun b o => sortedAll_old) (top1_none s.heap) (by rw [Array.toArray_toList]; exact he)

end
end Mine


namespace Mine
section
variable {O : Nat → D} {B : Heap} {X : Addr → Prop} {Z Z' : Zd} {α α' : List Addr} {σ σ' : Store} {s : Shared} {Q : Value → Shared → Prop}
variable {prog : Program} {w : World} {A : Around} {E : Value → Shared → Prop}

theorem RWs.ext {h h' : Heap} {vs : List Value} {xs : List W} (r : RWs O Z α vs xs) (e : Ext O B X Z α h Z' α' σ' h') : RWs O Z' α' vs xs := by
  induction vs generalizing xs with
  | nil => cases r; exact .nil
  | cons v vs ih => cases r with | cons a b => exact .cons (e.word a) (ih b)
theorem RWs.length {vs : List Value} {xs : List W} (r : RWs O Z α vs xs) : vs.length = xs.length := by
  induction vs generalizing xs with
  | nil => cases r; rfl
  | cons v vs ih => cases r with | cons a b => simp [ih b]
theorem RWs.frozen {vs : List Value} {xs : List W} {ds : List D} (r : RWs O Z α vs xs) (e : wDs xs = some ds) : RDs O Z vs ds := by
  induction vs generalizing xs ds with
  | nil => cases r; cases e; exact .nil
  | cons v vs ih =>
    cases r with
    | cons a b =>
      rename_i x xs
      rw [wDs] at e
      obtain ⟨d, h1, e⟩ := Option.bind_eq_some_iff.mp e
      obtain ⟨ds', h2, e⟩ := Option.map_eq_some_iff.mp e
      subst e
      exact .cons (wD_of a h1) (ih b h2)

theorem K1.after {x : W} {h1 : Heap} {Z1 : Zd} {α1 : List Addr} {σ1 : Store} {tk : Nat} (k : K1 O B Z α s Q x σ') (e : Ext O B (fun _ => False) Z α s.heap Z1 α1 σ1 h1) :
    K1 O B Z1 α1 { s with heap := h1, toks := tk } Q x σ' := fun v h' tk' Z' α' e' r => k v h' tk' Z' α' (e.trans e') r

/-! iterators -/
/-- the iterator I is at the items l; what it writes: fp -/
inductive ItSt (O : Nat → D) (Z : Zd) (α : List Addr) (h : Heap) (I : Addr) : List Addr → Option (Nat × List D) → List D → Prop
  | lst {a : Addr} {vs : List Value} {n i : Nat} {ds : List D} : h.IsListIter I a i → Z a (listOf vs.toArray n) → RDs O Z vs ds → ItSt O Z α h I [I] none (ds.drop i)
  | chg {a : Addr} {i j : Nat} {ds : List D} : h.IsListIter I a i → α[j]? = some a → ItSt O Z α h I [I] (some (j, ds)) (ds.drop i)
  | rng {x c : Int} {n : Nat} : IsRangeIter h I x (n : Int) c → ItSt O Z α h I [I] none (steps x c n)
  | enm {it a : Addr} {vs : List Value} {n i : Nat} {ds : List D} {old : Value} : IsEnum h I it (i : Int) old → h.IsListIter it a i → I ≠ it → Z a (listOf vs.toArray n) → RDs O Z vs ds → ItSt O Z α h I [I, it] none (dEnum (i : Int) (ds.drop i))

theorem ItSt.keep {h h' : Heap} {I : Addr} {fp : List Addr} {st : Option (Nat × List D)} {l : List D} (x : ItSt O Z α h I fp st l) (hk : ∀ b ∈ fp, ∀ o, h.get? b = some o → h'.get? b = some o)
    (hz : ∀ a o, Z a o → Z' a o) (ha : ∃ β, α' = α ++ β) : ItSt O Z' α' h' I fp st l := by
  cases x with
  | lst a b c => exact .lst (a.at fun o e => hk _ (by simp) o e) (hz _ _ b) (c.mono hz)
  | chg a b =>
    obtain ⟨β, rfl⟩ := ha
    exact .chg (a.at fun o e => hk _ (by simp) o e) (by rw [List.getElem?_append_left (List.getElem?_eq_some_iff.mp b).1]; exact b)
  | rng a => exact .rng (hk _ (by simp) _ a)
  | enm a b c d e => exact .enm (hk _ (by simp) _ a) (b.at fun o e => hk _ (by simp) o e) c (hz _ _ d) (e.mono hz)

/-- fresh to all that is told -/
noncomputable def Off (Z : Zd) (α : List Addr) (h : Heap) (fp : List Addr) : Prop := ∀ b ∈ fp, (∀ o, ¬ Z b o) ∧ b ∉ α ∧ ∃ o, h.get? b = some o

theorem stays_some {j : Nat} {l : List D} (h : stays (some (j, l)) σ = true) : σ[j]? = some l := by
  simp only [stays] at h
  cases e : σ[j]? with
  | none => rw [e] at h; cases h
  | some l' => rw [e] at h; rw [deqs_eq h]

theorem drop_cons {α : Type} {l : List α} {i : Nat} {x : α} {r : List α} (h : l.drop i = x :: r) : l[i]? = some x ∧ r = l.drop (i + 1) := by
  have h1 : i < l.length := by
    rcases Nat.lt_or_ge i l.length with h1 | h1
    · exact h1
    · rw [List.drop_eq_nil_of_le h1] at h; cases h
  rw [List.drop_eq_getElem_cons h1] at h
  cases h
  exact ⟨List.getElem?_eq_getElem h1, rfl⟩

theorem ext_own (I : Inv O B Z α σ s.heap) {fp : List Addr} {h' : Heap} (off : Off Z α s.heap fp) (hk : ∀ b o, b ∉ fp → s.heap.get? b = some o → h'.get? b = some o) :
    Ext O B (· ∈ fp) Z α s.heap Z α σ h' := by
  refine ⟨fun _ _ z => z, fun _ _ z => .inl z, fun a o _ n e => hk a o n e, fun a o n e => ⟨o, hk a o n e⟩, ⟨[], by simp, fun _ m => nomatch m⟩,
    ⟨I.base, fun a o z => hk a o (fun q => (off a q).1 o z) (I.led a o z), I.len, fun i a l e1 e2 => ?_, I.apart, I.nodup⟩⟩
  obtain ⟨vs, n, e, r⟩ := I.cell i a l e1 e2
  exact ⟨vs, n, hk a _ (fun q => (off a q).2.1 (List.mem_of_getElem? e1)) e, r⟩

/-- a target that a loop may have: a name, or a tuple -/
noncomputable def TgOk (two : Bool) (target : PySem.Expr) : Prop := if two = true then ∃ es k p, target = .Tuple es k p else ∃ x p, target = .Name x p

theorem go_name {target : PySem.Expr} (h : TgOk false target) (a v : Value) : letOwnedTupleGo target a v = pure () := by
  obtain ⟨x, p, rfl⟩ := h
  rfl
theorem go_list {two : Bool} {target : PySem.Expr} (h : TgOk two target) {it a : Addr} {i : Nat} {v : Value} {x : D} (r : RD O Z v x) (hx : two = true → ∃ ds, x = .tup ds) (hit : s.heap.IsListIter it a i) {Q : Unit → Shared → Prop} (k : Q () s) :
    wpAny (model prog w) A (letOwnedTupleGo target (.ref it) v) Q E s := by
  cases two with
  | false => rw [go_name h]; exact wpAny_pure k
  | true =>
    obtain ⟨es, kk, p, rfl⟩ := h
    obtain ⟨ds, rfl⟩ := hx rfl
    cases r with
    | tup _ _ _ _ => exact wpAny_letOwnedTupleGo_listiter hit k

theorem off_one {it : Addr} {h h' : Heap} (off : Off Z α h [it]) (hl : ∃ o, h'.get? it = some o) : Off Z α h' [it] := fun b hb => by
  have := off b hb
  rw [List.mem_singleton.mp hb] at this ⊢
  exact ⟨this.1, this.2.1, hl⟩

/-- the next item of an iterator; its tuple is let go where the target is a tuple -/
theorem it_item (I : Inv O B Z α σ s.heap) {target : PySem.Expr} {two : Bool} {it : Addr} {fp : List Addr} {st : Option (Nat × List D)} {x : D} {l : List D} {N : Shared → Prop} {P : Value → Shared → Prop} {E' : Value → Shared → Prop}
    (ht : TgOk two target) (hx : two = true → ∃ ds, x = .tup ds) (h2 : fp.length = 2 → two = true)
    (hit : ItSt O Z α s.heap it fp st (x :: l)) (off : Off Z α s.heap fp) (hst : stays st σ = true)
    (k : ∀ v h' tk Z', Ext O B (· ∈ fp) Z α s.heap Z' α σ h' → RD O Z' v x → ItSt O Z' α h' it fp st l → Off Z' α h' fp → P v { s with heap := h', toks := tk }) :
    wpAny (model prog w) A (pyNext (.ref it)) (fun r s₁ => match r with
      | none => N s₁
      | some v => wpAny (model prog w) A (letOwnedTupleGo target (.ref it) v) (fun _ s₁' => P v s₁') E' s₁) E s := by
  generalize hl : x :: l = l0 at hit
  cases hit with
  | lst a z r =>
    obtain ⟨hx', rfl⟩ := drop_cons hl.symm
    obtain ⟨v, hv, rv⟩ := r.get hx'
    refine wpAny_pyNext_list_item a (isList_of (I.led _ _ z)) (x := v) (by simpa using hv) fun h' a' hs' => ?_
    have e := ext_own I off (h' := h') fun b o n q => (hs'.2 b (fun qq => n (by simp [qq]))).trans q
    exact go_list (s := { s with heap := h' }) ht rv hx a' (k v h' s.toks Z e rv (.lst a' z r) (off_one off (let ⟨o, q, _⟩ := a'; ⟨o, q⟩)))
  | chg a ha =>
    obtain ⟨hx', rfl⟩ := drop_cons hl.symm
    obtain ⟨vs, n, hg, r⟩ := I.cell _ _ _ ha (stays_some hst)
    obtain ⟨v, hv, rv⟩ := r.get hx'
    refine wpAny_pyNext_list_item a (isList_of hg) (x := v) (by simpa using hv) fun h' a' hs' => ?_
    have e := ext_own I off (h' := h') fun b o n q => (hs'.2 b (fun qq => n (by simp [qq]))).trans q
    exact go_list (s := { s with heap := h' }) ht rv hx a' (k v h' s.toks Z e rv (.chg a' ha) (off_one off (let ⟨o, q, _⟩ := a'; ⟨o, q⟩)))
  | rng a =>
    rename_i y c n
    cases n with
    | zero => cases hl
    | succ n =>
      rw [steps] at hl
      cases hl
      have tw : two = false := by
        cases two with
        | false => rfl
        | true => obtain ⟨ds, q⟩ := hx rfl; cases q
      subst tw
      refine wpAny_pyNext_range_item a (by omega) fun h' a' hs' => ?_
      dsimp only
      rw [go_name ht]
      have e := ext_own I off (h' := h') fun b o n q => (hs'.2 b (fun qq => n (by simp [qq]))).trans q
      refine wpAny_pure (k _ h' _ Z e (.int _ _) (.rng ?_) (off_one off ⟨_, a'⟩))
      rw [show (((n + 1 : Nat) : Int) - 1) = (n : Int) by omega] at a'
      exact a'
  | enm a b hne z r =>
    rename_i it2 ax vs n i ds old
    obtain ⟨es, kk, p, rfl⟩ : ∃ es k p, target = .Tuple es k p := by
      have := h2 rfl
      subst this
      exact ht
    cases hd : ds.drop i with
    | nil => rw [hd] at hl; cases hl
    | cons y r0 =>
      rw [hd, dEnum] at hl
      cases hl
      obtain ⟨hy, rfl⟩ := drop_cons hd
      obtain ⟨v, hv, rv⟩ := r.get hy
      refine wpAny_pyNext_enum_item a b (isList_of (I.led _ _ z)) (x := v) (by simpa using hv) hne fun h' ho hit' hT hsz hk => ?_
      refine wpAny_letOwnedTupleGo_enum ho fun h'' he'' hs'' => ?_
      have tn : s.heap.objs.size ∉ [it, it2] := fun q => by
        obtain ⟨_, _, o, e⟩ := off _ q
        exact Nat.lt_irrefl _ (Heap.lt_size e)
      have e1 := Ext.add (X := (· ∈ [it, it2])) I (push_keeps s.heap { cls := .type "tuple", data := .seq #[.int i s.toks, v] }) (get_top_none s.heap) (Heap.get?_push_size _ rfl)
      have I1 := e1.inv
      have off1 : Off (Zadd Z s.heap.objs.size { cls := .type "tuple", data := .seq #[.int i s.toks, v] }) α (s.heap.push { cls := .type "tuple", data := .seq #[.int i s.toks, v] }) [it, it2] := fun b hb => by
        obtain ⟨o1, o2, o, o3⟩ := off b hb
        refine ⟨fun o z => ?_, o2, o, push_keeps _ _ _ _ o3⟩
        rcases z with z | ⟨q, _⟩
        · exact o1 _ z
        · exact tn (q ▸ hb)
      have nit : s.heap.objs.size ≠ it := fun q => tn (by simp [q])
      have nit2 : s.heap.objs.size ≠ it2 := fun q => tn (by simp [q])
      have e2 := ext_own (s := { s with heap := s.heap.push { cls := .type "tuple", data := .seq #[.int i s.toks, v] } }) (h' := h'') I1 off1 fun b o n q => by
        have n1 : b ≠ it := fun qq => n (by simp [qq])
        have n2 : b ≠ it2 := fun qq => n (by simp [qq])
        refine (hs''.2 b n1).trans ?_
        by_cases qb : b = s.heap.objs.size
        · subst qb
          rw [Heap.get?_push_size _ rfl] at q
          rw [hT]; exact q
        · have : s.heap.get? b = some o := by
            have hb := Heap.lt_size q
            rw [Heap.size_push] at hb
            have lt : b < s.heap.objs.size := Nat.lt_of_le_of_ne (Nat.le_of_lt_succ hb) qb
            cases e0 : s.heap.get? b with
            | some o' =>
              have := push_keeps s.heap { cls := .type "tuple", data := .seq #[.int i s.toks, v] } b o' e0
              rw [this] at q; exact q
            | none =>
              exfalso
              obtain ⟨g1, g2⟩ := Heap.get?_some_iff.mp q
              have g3 : s.heap.objs[b]? = some o := by
                revert g1
                generalize s.heap = hh at *
                cases hh
                simp only [Heap.push, Array.getElem?_push]
                intro g1
                rw [if_neg qb] at g1
                exact g1
              exact not_some_none e0 (Heap.get?_some_iff.mpr ⟨g3, g2⟩)
          exact hk b o n1 n2 this
      refine k (.ref s.heap.objs.size) h'' _ _ (e1.trans e2) (.tup (vs := [.int i s.toks, v]) (.inr ⟨rfl, rfl⟩) rfl rfl (.cons (.int _ _) (.cons (rv.mono fun _ _ z => .inl z) .nil))) ?_ ?_
      rotate_left
      · intro b hb
        obtain ⟨o1, o2, _⟩ := off1 b hb
        refine ⟨o1, o2, ?_⟩
        rcases List.mem_cons.mp hb with rfl | hb
        · exact ⟨_, he''⟩
        · rw [List.mem_singleton.mp hb]
          obtain ⟨o, q, _⟩ := hit'
          exact ⟨o, (hs''.2 it2 (Ne.symm hne)).trans q⟩
      have : ((i : Int) + 1) = ((i + 1 : Nat) : Int) := by omega
      rw [this] at he'' ⊢
      exact .enm he'' (hit'.at fun o q => (hs''.2 it2 (Ne.symm hne)).trans q) hne (.inl z) (r.mono fun _ _ z => .inl z)

theorem it_done (I : Inv O B Z α σ s.heap) (hh : A.handled = none) {it : Addr} {fp : List Addr} {st : Option (Nat × List D)} {N : Shared → Prop} {P : Value → Shared → Prop}
    (hit : ItSt O Z α s.heap it fp st []) (off : Off Z α s.heap fp) (hst : stays st σ = true)
    (k : ∀ h' tk, Ext O B (· ∈ fp) Z α s.heap Z α σ h' → N { s with heap := h', toks := tk }) :
    wpAny (model prog w) A (pyNext (.ref it)) (fun r s₁ => match r with
      | none => N s₁
      | some v => P v s₁) E s := by
  generalize hl : ([] : List D) = l0 at hit
  cases hit with
  | lst a z r =>
    have h0 : ∀ {vs : List Value} {ds : List D} {i : Nat}, RDs O Z vs ds → ds.drop i = [] → vs.toArray[i]? = none := fun r q => by
      have := List.drop_eq_nil_iff.mp q
      rw [← r.length] at this
      simpa using this
    refine wpAny_pyNext_list_end hh a (isList_of (I.led _ _ z)) (h0 r hl.symm) fun h' he => ?_
    exact k h' s.toks (ext_own I off fun b o n q => he b o (fun qq => n (by simp [qq])) q)
  | chg a ha =>
    obtain ⟨vs, n, hg, r⟩ := I.cell _ _ _ ha (stays_some hst)
    have h1 := List.drop_eq_nil_iff.mp hl.symm
    rw [← r.length] at h1
    refine wpAny_pyNext_list_end hh a (isList_of hg) (by simpa using h1) fun h' he => ?_
    exact k h' s.toks (ext_own I off fun b o n q => he b o (fun qq => n (by simp [qq])) q)
  | rng a =>
    rename_i y c n
    cases n with
    | succ n => rw [steps] at hl; cases hl
    | zero =>
      refine wpAny_pyNext_range_end hh a (by omega) fun h' he => ?_
      exact k h' s.toks (ext_own I off fun b o n q => he b o (fun qq => n (by simp [qq])) q)
  | enm a b hne z r =>
    rename_i it2 ax vs n i ds old
    cases hd : ds.drop i with
    | cons y r0 => rw [hd, dEnum] at hl; cases hl
    | nil =>
      have h1 := List.drop_eq_nil_iff.mp hd
      rw [← r.length] at h1
      refine wpAny_pyNext_enum_end hh a b (isList_of (I.led _ _ z)) (by simpa using h1) fun h' he => ?_
      exact k h' s.toks (ext_own I off fun b o n q => he b o (fun qq => n (by simp [qq])) q)
end
end Mine


namespace Mine

structure Tb where
  gn : Nat → Str
  fn : Nat → Str

noncomputable def isStar : PySem.Expr → Bool
  | .Starred .. => true
  | _ => false
noncomputable def isSlice : PySem.Expr → Bool
  | .Slice .. => true
  | _ => false

noncomputable def isCall : PySem.Expr → Bool
  | .Call .. => true
  | _ => false

noncomputable def bNm : Blt → Str
  | .abs => "abs" | .len => "len" | .max => "max" | .min => "min" | .sorted => "sorted" | .list => "list" | .int => "int"

noncomputable def cxIn (C : Cx) (names : List (Str × NameKind)) (tg : List Str) : Cx :=
  ⟨C.xs.map (fun o => o.bind fun x => if names.lookup x = some .free then some x else none) ++ tg.map some, names⟩

/-- the targets of a loop, as names -/
inductive Tgt : PySem.Expr → List Str → Prop
  | one {x : Str} {p : Pos} : Tgt (.Name x p) [x]
  | two {x y : Str} {p q r : Pos} {k : Nat} : Tgt (.Tuple [.Name x p, .Name y q] k r) [x, y]

noncomputable def scOk (C : Cx) (scope : Scope) (tg : List Str) : Prop :=
  scope.kind = .function ∧ (scope.names.map (·.1)).Nodup ∧ (∀ x ∈ scope.names, x.2 = .free → C.ks.lookup x.1 = some .cell ∨ C.ks.lookup x.1 = some .free) ∧
    (∀ x ∈ tg, scope.names.lookup x = some .local ∨ scope.names.lookup x = some .cell) ∧ tg.Nodup

mutual
inductive CE (T : Tb) : Cx → PySem.Expr → ME → Prop
  | var {C : Cx} {i : Nat} {x : Str} {pos : Pos} : C.xs[i]? = some (some x) → nameOk x = true → (C.ks.lookup x = some .local ∨ C.ks.lookup x = some .cell ∨ C.ks.lookup x = some .free) → CE T C (.Name x pos) (.var i)
  | glob {C : Cx} {g : Nat} {x : Str} {pos : Pos} : x = T.gn g → nameOk x = true → C.ks.lookup x = some .globalImplicit → CE T C (.Name x pos) (.glob g)
  | int {C : Cx} {i : Int} {k : Nat} {pos : Pos} : CE T C (.Constant (.int i) k pos) (.int i)
  | bool {C : Cx} {b : Bool} {k : Nat} {pos : Pos} : CE T C (.Constant (.bool b) k pos) (.bool b)
  | neg {C : Cx} {e : PySem.Expr} {a : ME} {pos : Pos} : CE T C e a → CE T C (.UnaryOp .USub e pos) (.neg a)
  | bin {C : Cx} {o : Bop} {op : Operator} {l r : PySem.Expr} {a b : ME} {pos : Pos} : op = bOp o → CE T C l a → CE T C r b → CE T C (.BinOp l op r pos) (.bin o a b)
  | cmp {C : Cx} {o : Cop} {op : CmpOp} {l r : PySem.Expr} {a b : ME} {pos : Pos} : op = cOp o → CE T C l a → CE T C r b → CE T C (.Compare l [op] [r] pos) (.cmp o a b)
  | and {C : Cx} {l r : PySem.Expr} {a b : ME} {pos : Pos} : CE T C l a → CE T C r b → CE T C (.BoolOp .And [l, r] pos) (.and a b)
  | ite {C : Cx} {c l r : PySem.Expr} {d a b : ME} {pos : Pos} : CT T C c d → CE T C l a → CE T C r b → CE T C (.IfExp c l r pos) (.ite d a b)
  | idx {C : Cx} {l r : PySem.Expr} {a b : ME} {pos : Pos} : isSlice r = false → CE T C l a → CE T C r b → CE T C (.Subscript l r pos) (.idx a b)
  | upto {C : Cx} {l r : PySem.Expr} {a b : ME} {pos p : Pos} : CE T C l a → CE T C r b → CE T C (.Subscript l (.Slice none (some r) none p) pos) (.upto a b)
  | from' {C : Cx} {l r : PySem.Expr} {a b : ME} {pos p : Pos} : CE T C l a → CE T C r b → CE T C (.Subscript l (.Slice (some r) none none p) pos) (.from' a b)
  | rev {C : Cx} {l : PySem.Expr} {a : ME} {k : Nat} {pos p q r : Pos} : CE T C l a → CE T C (.Subscript l (.Slice none none (some (.UnaryOp .USub (.Constant (.int 1) k q) r)) p) pos) (.rev a)
  | tup {C : Cx} {es : List PySem.Expr} {ms : List ME} {k : Nat} {pos : Pos} : CEs T C es ms → CE T C (.Tuple es k pos) (.tup ms)
  | lst {C : Cx} {es : List PySem.Expr} {ms : List ME} {pos : Pos} : CEs T C es ms → CE T C (.List es pos) (.lst ms)
  | mlst {C : Cx} {es : List PySem.Expr} {ms : List ME} {pos : Pos} : CEs T C es ms → CE T C (.List es pos) (.mlst ms)
  | mrep {C : Cx} {l r : PySem.Expr} {a b : ME} {pos : Pos} : CE T C l a → CE T C r b → CE T C (.BinOp l .Mult r pos) (.mrep a b)
  | mcopy {C : Cx} {e : PySem.Expr} {a : ME} {x : Str} {pos p : Pos} : x = "list" → C.ks.lookup x = some .globalImplicit → isStar e = false → CE T C e a → CE T C (.Call (.Name x p) [e] [] pos) (.mcopy a)
  | call {C : Cx} {f : Nat} {e : PySem.Expr} {es : List PySem.Expr} {ms : List ME} {x : Str} {pos p : Pos} : x = T.fn f → nameOk x = true → C.ks.lookup x = some .globalImplicit → CEs T C (e :: es) ms → CE T C (.Call (.Name x p) (e :: es) [] pos) (.call f ms)
  | blt {C : Cx} {b : Blt} {e : PySem.Expr} {es : List PySem.Expr} {ms : List ME} {x : Str} {pos p : Pos} : x = bNm b → C.ks.lookup x = some .globalImplicit → CEs T C (e :: es) ms → CE T C (.Call (.Name x p) (e :: es) [] pos) (.blt b ms)
  | comp {C : Cx} {elt target iter : PySem.Expr} {ifs : List PySem.Expr} {scope : Scope} {pos : Pos} {e' : ME} {two : Bool} {k : IK} {args : List ME} {cond : Option ME} {tg : List Str} : scOk C scope tg → Tgt target tg → two = decide (tg.length = 2) →
      (k = .enum → two = true) → CI T C iter k args → CE T (cxIn C scope.names tg) elt e' → CC T (cxIn C scope.names tg) ifs cond → CE T C (.ListComp elt [⟨target, iter, ifs, 0⟩] scope pos) (.comp e' two k args cond)
  | stop {C : Cx} {e : PySem.Expr} : CE T C e .stop
inductive CEs (T : Tb) : Cx → List PySem.Expr → List ME → Prop
  | nil {C : Cx} : CEs T C [] []
  | cons {C : Cx} {e : PySem.Expr} {es : List PySem.Expr} {m : ME} {ms : List ME} : isStar e = false → CE T C e m → CEs T C es ms → CEs T C (e :: es) (m :: ms)
inductive CT (T : Tb) : Cx → PySem.Expr → ME → Prop
  | cmp {C : Cx} {o : Cop} {op : CmpOp} {l r : PySem.Expr} {a b : ME} {pos : Pos} : op = cOp o → CE T C l a → CE T C r b → CT T C (.Compare l [op] [r] pos) (.cmp o a b)
  | bool {C : Cx} {op : BoolOp} {es : List PySem.Expr} {a : ME} {pos : Pos} : CTl T C op es a → CT T C (.BoolOp op es pos) a
  | call {C : Cx} {e : PySem.Expr} {a : ME} : isCall e = true → CE T C e a → CT T C e a
inductive CTl (T : Tb) : Cx → BoolOp → List PySem.Expr → ME → Prop
  | one {C : Cx} {op : BoolOp} {e : PySem.Expr} {a : ME} : CT T C e a → CTl T C op [e] a
  | and {C : Cx} {e e₂ : PySem.Expr} {es : List PySem.Expr} {a b : ME} : CT T C e a → CTl T C .And (e₂ :: es) b → CTl T C .And (e :: e₂ :: es) (.and a b)
  | or {C : Cx} {e e₂ : PySem.Expr} {es : List PySem.Expr} {a b : ME} : CT T C e a → CTl T C .Or (e₂ :: es) b → CTl T C .Or (e :: e₂ :: es) (.or a b)
inductive CI (T : Tb) : Cx → PySem.Expr → IK → List ME → Prop
  | val {C : Cx} {e : PySem.Expr} {a : ME} : (∀ env x, foldedSetIterable e env x = pure x) → CE T C e a → CI T C e .val [a]
  | range {C : Cx} {e : PySem.Expr} {es : List PySem.Expr} {ms : List ME} {x : Str} {pos p : Pos} : x = "range" → C.ks.lookup x = some .globalImplicit → CEs T C (e :: es) ms → CI T C (.Call (.Name x p) (e :: es) [] pos) .range ms
  | enum {C : Cx} {e : PySem.Expr} {a : ME} {x : Str} {pos p : Pos} : x = "enumerate" → C.ks.lookup x = some .globalImplicit → isStar e = false → CE T C e a → CI T C (.Call (.Name x p) [e] [] pos) .enum [a]
inductive CC (T : Tb) : Cx → List PySem.Expr → Option ME → Prop
  | none {C : Cx} : CC T C [] none
  | some {C : Cx} {c : PySem.Expr} {a : ME} : CT T C c a → CC T C [c] (some a)
end

section
variable {O : Nat → D} {T : Tb} {B : Heap} {prog : Program} {w : World} {b : Nat}

/-- a def's contract -/
noncomputable def FnOk (O : Nat → D) (B : Heap) (prog : Program) (w : World) (b : Nat) (a : Addr) (pf : FnT) : Prop :=
  ∀ (A : Around) (s : Shared) (Z : Zd) (α : List Addr) (σ σ' : Store) (vs : List Value) (xs : List W) (r : D) (R : Result → Shared → Prop), Room A b → Inv O B Z α σ s.heap → RWs O Z α vs xs → pf xs σ = some (r, σ') →
    (∀ v h' tk Z', Ext O B (fun _ => False) Z α s.heap Z' α σ' h' → RD O Z' v r → R (.ok (.ret v)) { s with heap := h', toks := tk }) → codeAny (model prog w) A (.call (.ref a) ⟨vs, []⟩) R s

structure Gl (O : Nat → D) (T : Tb) (B : Heap) (prog : Program) (w : World) (b : Nat) (F : Nat → FnT) (G : Nat → Option D) (srt : List D → Option (List D)) (mg mb : Str → Option Value) : Prop where
  g : B.Ns mainGlobals mg
  bb : B.Ns builtinsNs mb
  nl : B.NoLimit
  gv : ∀ i d, G i = some d → ∃ v, mg (T.gn i) = some v ∧ RD O (fun a o => B.get? a = some o) v d
  bn : ∀ t : Blt, mg (bNm t) = none ∧ mb (bNm t) = some (bFn t)
  rn : mg "range" = none ∧ mb "range" = some (.type "range")
  en : mg "enumerate" = none ∧ mb "enumerate" = some (.type "enumerate")
  fv : ∀ f xs σ r, F f xs σ = some r → ∃ a o fd, mg (T.fn f) = some (.ref a) ∧ B.get? a = some o ∧ o.data = .func fd ∧ FnOk O B prog w b a (F f)
  so : SrtOk O B prog w b srt

noncomputable def SndE (O : Nat → D) (T : Tb) (B : Heap) (prog : Program) (w : World) (b : Nat) (r : EvT) : Prop :=
  ∀ (C : Cx) (e : PySem.Expr) (me : ME), CE T C e me → ∀ (A : Around) (s : Shared) (env : Env) (Z : Zd) (α : List Addr) (σ σ' : Store) (ρ : Rho) (x : W) (Q : Value → Shared → Prop) (E : Value → Shared → Prop), Room A b → Inv O B Z α σ s.heap →
    Frm O Z α C env ρ s.heap → ρ.length = C.xs.length → r σ ρ me = some (x, σ') → K1 O B Z α s Q x σ' → wpAny (model prog w) A (eval e env) Q E s
noncomputable def SndT (O : Nat → D) (T : Tb) (B : Heap) (prog : Program) (w : World) (b : Nat) (r : EvT) : Prop :=
  ∀ (C : Cx) (e : PySem.Expr) (me : ME), CT T C e me → ∀ (A : Around) (s : Shared) (env : Env) (Z : Zd) (α : List Addr) (σ σ' : Store) (ρ : Rho) (x : W) (t : Bool) (Q : Bool → Shared → Prop) (E : Value → Shared → Prop), Room A b → Inv O B Z α σ s.heap →
    Frm O Z α C env ρ s.heap → ρ.length = C.xs.length → r σ ρ me = some (x, σ') → asTru x = some t →
    (∀ h' tk Z' α', Ext O B (fun _ => False) Z α s.heap Z' α' σ' h' → Q t { s with heap := h', toks := tk }) → wpAny (model prog w) A (isTrue e env (eval e env)) Q E s

variable {F : Nat → FnT} {G : Nat → Option D} {srt : List D → Option (List D)} {mg mb : Str → Option Value} {r : EvT}
variable {A : Around} {s : Shared} {env : Env} {Z : Zd} {α : List Addr} {σ σ' : Store} {ρ : Rho} {C : Cx} {E : Value → Shared → Prop}

theorem star_cons {e : PySem.Expr} {es : List PySem.Expr} (h : isStar e = false) : starEach (e :: es) env = (false, eval e env) :: starEach es env := by
  cases e <;> first | rfl | cases h

theorem sndL (hE : SndE O T B prog w b r) (rm : Room A b) : ∀ (es : List PySem.Expr) (ms : List ME) (pos : Pos) (s : Shared) (Z : Zd) (α : List Addr) (σ σ' : Store) (xs : List W) (Q : List Value → Shared → Prop), CEs T C es ms →
    Inv O B Z α σ s.heap → Frm O Z α C env ρ s.heap → ρ.length = C.xs.length → evL r ρ σ ms = some (xs, σ') →
    (∀ vs h' tk Z' α', Ext O B (fun _ => False) Z α s.heap Z' α' σ' h' → RWs O Z' α' vs xs → Q vs { s with heap := h', toks := tk }) → wpAny (model prog w) A (spliced (backTo pos (starEach es env))) Q E s
  | [], ms, pos, s, Z, α, σ, σ', xs, Q, hc, I, Fm, hl, he, k => by
    cases hc
    simp only [evL, Option.some.injEq, Prod.mk.injEq] at he
    obtain ⟨rfl, rfl⟩ := he
    exact PyProof.Rows.args_nil (k [] s.heap s.toks Z α (Ext.refl I) .nil)
  | e :: es, ms, pos, s, Z, α, σ, σ', xs, Q, hc, I, Fm, hl, he, k => by
    cases hc with
    | cons hs h1 h2 =>
      simp only [evL] at he
      obtain ⟨p, hp, he⟩ := Option.bind_eq_some_iff.mp he
      obtain ⟨q, hq, he⟩ := Option.map_eq_some_iff.mp he
      cases he
      refine PyProof.Rows.args_cons (hE C e _ h1 A s env Z α σ p.2 ρ p.1 _ _ rm I Fm hl hp fun v h' tk Z' α' e1 r1 => ?_) (star_cons hs)
      refine sndL hE rm es _ pos _ Z' α' p.2 q.2 q.1 _ h2 e1.inv (Fm.ext e1) hl hq fun vs h'' tk' Z'' α'' e2 r2 => ?_
      exact k _ h'' tk' Z'' α'' (e1.trans e2) (.cons (e2.word r1) r2)

theorem bNm_ok (t : Blt) : (bNm t == ("__debug__" : Str)) = false := by cases t <;> decide +kernel

/-- a name of the top, or a built-in's -/
theorem load_glob (Gd : Gl O T B prog w b F G srt mg mb) (I : Inv O B Z α σ s.heap) (Fm : Frm O Z α C env ρ s.heap) {x : Str} {pos : Pos} {v : Value} {Q : Value → Shared → Prop} (hk : C.ks.lookup x = some .globalImplicit) (hd : (x == ("__debug__" : Str)) = false)
    (hv : mg x = some v) (h : Q v s) : wpAny (model prog w) A (eval (.Name x pos) env) Q E s :=
  Calls.Name_function_global Fm.kind (Fm.kg x hk) (Calls.loadGlobal_global (mg := mg) (by rw [Fm.glb]; exact Gd.g.keeps fun a o e => I.led a o (I.base a o e)) hv h) hd
theorem load_blt (Gd : Gl O T B prog w b F G srt mg mb) (I : Inv O B Z α σ s.heap) (Fm : Frm O Z α C env ρ s.heap) {x : Str} {pos : Pos} {v : Value} {Q : Value → Shared → Prop} (hk : C.ks.lookup x = some .globalImplicit) (hd : (x == ("__debug__" : Str)) = false)
    (h0 : mg x = none) (hv : mb x = some v) (h : Q v s) : wpAny (model prog w) A (eval (.Name x pos) env) Q E s :=
  Calls.Name_function_global Fm.kind (Fm.kg x hk) (Calls.loadGlobal_builtin (mg := mg) (mb := mb) (by rw [Fm.glb]; exact Gd.g.keeps fun a o e => I.led a o (I.base a o e)) h0 (by rw [Fm.blt]; exact Gd.bb.keeps fun a o e => I.led a o (I.base a o e)) hv h) hd

/-- no argument of a display is starred -/
theorem plain_args {es : List PySem.Expr} {ms : List ME} (h : CEs T C es ms) (pos : Pos) : (backTo pos (starEach es env)).any (·.1) = false := by
  induction es generalizing ms with
  | nil => cases h; rfl
  | cons e es ih =>
    cases h with
    | cons hs _ h2 =>
      have := ih h2
      rw [star_cons hs]
      show (false || (backTo pos (starEach es env)).any (·.1)) = false
      rw [this]; rfl

/-- a call of a built-in, or of a type, upon plain arguments -/
theorem call_blt {t : Blt} {e : PySem.Expr} {es : List PySem.Expr} {ms : List ME} {pos : Pos} {Q : Value → Shared → Prop} (hc : CEs T C (e :: es) ms)
    (h : wpAny (model prog w) A (spliced (backTo pos (starEach (e :: es) env))) (fun vs s₁ => wpAny (model prog w) A (call (bFn t) vs) Q E s₁) E s) :
    wpAny (model prog w) A (callWith pos (bFn t) [] (backTo pos (starEach (e :: es) env)) []) Q E s := by
  cases hc with
  | cons hs h1 h2 =>
    have hp := plain_args (env := env) h2 pos
    cases t
    case list => exact PySem.Pv.callWith_type1 h (star_cons hs) hp
    case int => exact PySem.Pv.callWith_type1 h (star_cons hs) hp
    all_goals exact PyProof.Rows.callWith_builtin1 h (star_cons hs) hp
theorem call_ty {t : String} {e : PySem.Expr} {es : List PySem.Expr} {ms : List ME} {pos : Pos} {Q : Value → Shared → Prop} (hc : CEs T C (e :: es) ms)
    (h : wpAny (model prog w) A (spliced (backTo pos (starEach (e :: es) env))) (fun vs s₁ => wpAny (model prog w) A (call (.type t) vs) Q E s₁) E s) :
    wpAny (model prog w) A (callWith pos (.type t) [] (backTo pos (starEach (e :: es) env)) []) Q E s := by
  cases hc with
  | cons hs h1 h2 => exact PySem.Pv.callWith_type1 h (star_cons hs) (plain_args (env := env) h2 pos)
end
end Mine


namespace Mine
section
variable {O : Nat → D} {T : Tb} {B : Heap} {prog : Program} {w : World} {b : Nat}
variable {F : Nat → FnT} {G : Nat → Option D} {srt : List D → Option (List D)} {mg mb : Str → Option Value} {r : EvT}
variable {A : Around} {s : Shared} {env : Env} {Z : Zd} {α : List Addr} {σ σ' : Store} {ρ : Rho} {C : Cx} {E : Value → Shared → Prop}

theorem fresh_off {h h' : Heap} {Z : Zd} {α : List Addr} (I : Inv O B Z α σ h) {a : Addr} (ha : h.get? a = none) (hk : ∃ o, h'.get? a = some o) : (∀ o, ¬ Z a o) ∧ a ∉ α ∧ ∃ o, h'.get? a = some o :=
  ⟨fun o z => not_some_none ha (I.led a o z), fun q => by obtain ⟨o, e⟩ := I.live q; exact not_some_none ha e, hk⟩

theorem none_back {Z' : Zd} {α' : List Addr} {h h' : Heap} (e : Ext O B (fun _ => False) Z α h Z' α' σ' h') {a : Addr} (ha : h'.get? a = none) : h.get? a = none := by
  cases q : h.get? a with
  | none => rfl
  | some o => obtain ⟨o', e'⟩ := e.live a o (fun x => x) q; exact (not_some_none ha e').elim

theorem none_top1 (h : Heap) : h.get? (h.objs.size + 1) = none := by
  cases q : h.get? (h.objs.size + 1) with
  | none => rfl
  | some o => exact absurd (Heap.lt_size q) (Nat.not_lt.mpr (Nat.le_succ _))

theorem rs_one (a b : Int) : Builtin.Range.rangeSize a b 1 = ((b - a).toNat : Int) := by
  rw [rangeSize_one]; split <;> omega
theorem rs_two (a b : Int) : Builtin.Range.rangeSize a b 2 = ((((b - a) + 1).fdiv 2).toNat : Int) := by
  have : ∀ x : Int, x.fdiv 2 = x / 2 := fun x => Int.fdiv_eq_ediv_of_nonneg x (by decide)
  rw [this]
  unfold Builtin.Range.rangeSize
  rw [if_pos (by decide)]
  split <;> omega

theorem rng_small {a b c : Int} {n : Nat} (ha : small a = true) (hb : small b = true) (hc : c = 1 ∨ c = 2) (e : Builtin.Range.rangeSize a b c = (n : Int)) (hn : n ≤ big) : Builtin.Range.small a b c = true := by
  have h1 := small_fits ha
  have h2 := small_fits hb
  have hbig : big < 2 ^ 62 := by decide
  unfold Builtin.Range.small Builtin.Range.rangeFitsLong
  rw [e]
  rcases hc with rfl | rfl <;> simp <;> omega

/-- what is known once the iterator stands -/
noncomputable def Started (O : Nat → D) (B : Heap) (Z : Zd) (α : List Addr) (s : Shared) (k : IK) (l : List D) (st : Option (Nat × List D)) (σ' : Store) (P : Value → Shared → Prop) : Prop :=
  ∀ I fp h' tk Z' α', Ext O B (fun _ => False) Z α s.heap Z' α' σ' h' → (∀ b ∈ fp, s.heap.get? b = none) → Off Z' α' h' fp → ItSt O Z' α' h' I fp st l → stays st σ' = true → (fp.length = 2 → k = .enum) → P (.ref I) { s with heap := h', toks := tk }

theorem start_list {P : Value → Shared → Prop} {Z' : Zd} {α' : List Addr} {h1 : Heap} {tk : Nat} {v : Value} {x : W} {l : List D} {st : Option (Nat × List D)} (e : Ext O B (fun _ => False) Z α s.heap Z' α' σ' h1) (r : RW O Z' α' v x)
    (hx : (x = .d (.lst l) ∧ st = none) ∨ ∃ i, x = .m i ∧ σ'[i]? = some l ∧ st = some (i, l)) (k : Started O B Z α s .val l st σ' P) :
    wpAny (model prog w) A (pyIter v) P E { s with heap := h1, toks := tk } := by
  have hl : wList σ' x = some l := by
    rcases hx with ⟨rfl, _⟩ | ⟨i, rfl, q, _⟩
    · rfl
    · exact q
  obtain ⟨a, vs, n, rfl, hg, rr⟩ := list_of (s := { s with heap := h1 }) e.inv r hl
  refine wpAny_pyIter_list (isList_of hg) ?_
  have e2 := e.trans (Ext.of_keeps (X := fun _ => False) e.inv (push_keeps h1 { cls := .type "list_iterator", data := .fields #[.ref a, .int 0 0] }))
  have hI : (h1.push { cls := .type "list_iterator", data := .fields #[.ref a, .int 0 0] }).IsListIter h1.objs.size a 0 := ⟨_, Heap.get?_push_size _ rfl, rfl, rfl⟩
  have off : Off Z' α' (h1.push { cls := .type "list_iterator", data := .fields #[.ref a, .int 0 0] }) [h1.objs.size] := fun b hb => by
    rw [List.mem_singleton.mp hb]
    exact fresh_off e.inv (get_top_none _) ⟨_, Heap.get?_push_size _ rfl⟩
  have fr : ∀ b ∈ [h1.objs.size], s.heap.get? b = none := fun b hb => by
    rw [List.mem_singleton.mp hb]
    exact none_back e (get_top_none _)
  rcases hx with ⟨rfl, rfl⟩ | ⟨i, rfl, q, rfl⟩
  · refine k _ [h1.objs.size] _ tk Z' α' e2 fr off ?_ rfl (by simp)
    cases r with
    | d r =>
      cases r with
      | lst z r => exact ItSt.lst (i := 0) hI z r
  · refine k _ [h1.objs.size] _ tk Z' α' e2 fr off ?_ (by simp only [stays, q]; exact deqs_refl l) (by simp)
    cases r with
    | m ha => exact ItSt.chg (i := 0) hI ha

theorem start_range {P : Value → Shared → Prop} {Z' : Zd} {α' : List Addr} {h1 : Heap} {tk2 : Nat} {a c d : Int} {n : Nat} {t u v : Tok} (e : Ext O B (fun _ => False) Z α s.heap Z' α' σ' h1)
    (hs : Builtin.Range.small a c d = true) (hn : Builtin.Range.rangeSize a c d = (n : Int)) (k : Started O B Z α s .range (steps a d n) none σ' P) :
    wpAny (model prog w) A (pyIter (.ref h1.objs.size)) P E { s with heap := h1.push { cls := .type "range", data := .fields #[.int a t, .int c u, .int d v] }, toks := tk2 } := by
  have e1 := e.trans (Ext.of_keeps (X := fun _ => False) e.inv (push_keeps h1 { cls := .type "range", data := .fields #[.int a t, .int c u, .int d v] }))
  refine wpAny_pyIter_range (r := h1.objs.size) (Heap.get?_push_size _ rfl) hs ?_
  rw [hn]
  have e2 := e1.trans (Ext.of_keeps (X := fun _ => False) e1.inv (push_keeps _ { cls := .type "range_iterator", data := .fields #[rawInt a, rawInt (n : Int), rawInt d] }))
  refine k _ [_] _ tk2 Z' α' e2 (fun b hb => ?_) (fun b hb => ?_) (.rng (Heap.get?_push_size _ rfl)) rfl (by simp)
  · rw [List.mem_singleton.mp hb]
    exact none_back e1 (get_top_none _)
  · rw [List.mem_singleton.mp hb]
    exact fresh_off e1.inv (get_top_none _) ⟨_, Heap.get?_push_size _ rfl⟩

theorem half_le {x : Int} {k : Nat} (h : x.toNat ≤ k) : ((x + 1).fdiv 2).toNat ≤ k := by
  have : (x + 1).fdiv 2 = (x + 1) / 2 := Int.fdiv_eq_ediv_of_nonneg _ (by decide)
  rw [this]
  omega
/-! what an iteration's value tells -/
theorem dR1 (a : D) : dRange [a] = (int? a).bind fun n => if (small n && decide (n.toNat ≤ big)) = true then some (steps 0 1 n.toNat) else none := by
  cases a <;> rfl
theorem dR2 (a c : D) : dRange [a, c] = (int? a).bind fun i => (int? c).bind fun j => if (small i && small j && decide ((j - i).toNat ≤ big)) = true then some (steps i 1 (j - i).toNat) else none := by
  cases a <;> first | rfl | (cases c <;> rfl)
theorem dR3 (a c d : D) : dRange [a, c, d] = (int? a).bind fun i => (int? c).bind fun j => (int? d).bind fun m => if (small i && small j && decide (m = 2) && decide ((j - i).toNat ≤ big)) = true then some (steps i 2 (((j - i) + 1).fdiv 2).toNat) else none := by
  cases a <;> first | rfl | (cases c <;> first | rfl | (cases d <;> rfl))
theorem dR4 (a c d x : D) (r : List D) : dRange (a :: c :: d :: x :: r) = none := by
  first | rfl | (cases a <;> first | rfl | (cases c <;> first | rfl | (cases d <;> rfl)))
theorem RDs.int1 {Z : Zd} {vs : List Value} {x : D} {i : Int} (r : RDs O Z vs [x]) (h : int? x = some i) : ∃ t, vs = [.int i t] := by
  cases r with | cons a r => cases r; obtain ⟨t, rfl⟩ := a.isInt h; exact ⟨t, rfl⟩
theorem RDs.int2 {Z : Zd} {vs : List Value} {x y : D} {i j : Int} (r : RDs O Z vs [x, y]) (h : int? x = some i) (h2 : int? y = some j) : ∃ t u, vs = [.int i t, .int j u] := by
  cases r with | cons a r => obtain ⟨t, rfl⟩ := a.isInt h; obtain ⟨u, rfl⟩ := r.int1 h2; exact ⟨t, u, rfl⟩
theorem RDs.int3 {Z : Zd} {vs : List Value} {x y z : D} {i j k : Int} (r : RDs O Z vs [x, y, z]) (h : int? x = some i) (h2 : int? y = some j) (h3 : int? z = some k) : ∃ t u v, vs = [.int i t, .int j u, .int k v] := by
  cases r with | cons a r => obtain ⟨t, rfl⟩ := a.isInt h; obtain ⟨u, v, rfl⟩ := r.int2 h2 h3; exact ⟨t, u, v, rfl⟩
section
variable {l : List D} {st : Option (Nat × List D)} {PP : Prop}
theorem wv_val {x : W} {σ1 : Store} (he : (match (IK.val : IK), ([x] : List W) with
    | .val, [.d (.lst l)] => if l.length ≤ big then some (l, (none : Option (Nat × List D)), σ1) else none
    | .val, [.m i] => (σ1[i]?).bind fun l => if l.length ≤ big then some (l, some (i, l), σ1) else none
    | .enum, [.d (.lst l)] => if l.length ≤ big then some (dEnum 0 l, none, σ1) else none
    | .range, ws => (wDs ws).bind fun ds => (dRange ds).map fun l => (l, none, σ1)
    | _, _ => none) = some (l, st, σ')) : σ1 = σ' ∧ ((x = .d (.lst l) ∧ st = none) ∨ ∃ i, x = .m i ∧ σ'[i]? = some l ∧ st = some (i, l)) := by
  cases x with
  | d x =>
    cases x with
    | lst l0 => exact iE he fun _ e => by cases e; exact ⟨rfl, .inl ⟨rfl, rfl⟩⟩
    | int => cases he
    | bool => cases he
    | tup => cases he
    | opq => cases he
  | m i => exact bE he fun l0 h0 e => iE e fun _ e => by cases e; exact ⟨rfl, .inr ⟨i, rfl, h0, rfl⟩⟩
theorem wv_enum {xs : List W} {σ1 : Store} (he : (match (IK.enum : IK), xs with
    | .val, [.d (.lst l)] => if l.length ≤ big then some (l, (none : Option (Nat × List D)), σ1) else none
    | .val, [.m i] => (σ1[i]?).bind fun l => if l.length ≤ big then some (l, some (i, l), σ1) else none
    | .enum, [.d (.lst l)] => if l.length ≤ big then some (dEnum 0 l, none, σ1) else none
    | .range, ws => (wDs ws).bind fun ds => (dRange ds).map fun l => (l, none, σ1)
    | _, _ => none) = some (l, st, σ')) : ∃ l0, xs = [.d (.lst l0)] ∧ l = dEnum 0 l0 ∧ st = none ∧ σ1 = σ' := by
  cases xs with
  | nil => cases he
  | cons x r => cases x with
    | m _ => cases r <;> cases he
    | d x => cases x with
      | lst l0 => cases r with
        | nil => exact iE he fun _ e => by cases e; exact ⟨_, rfl, rfl, rfl, rfl⟩
        | cons _ _ => cases he
      | int => cases r <;> cases he
      | bool => cases r <;> cases he
      | tup => cases r <;> cases he
      | opq => cases r <;> cases he
theorem iv_val {a : ME} (he : evI r σ ρ .val [a] = some (l, st, σ')) (k : ∀ x, r σ ρ a = some (x, σ') → ((x = .d (.lst l) ∧ st = none) ∨ ∃ i, x = .m i ∧ σ'[i]? = some l ∧ st = some (i, l)) → PP) : PP :=
  bE (show Option.bind _ _ = _ from he) fun p hp he => by
    refine bE (show Option.bind _ _ = _ from hp) fun q hq hp => ?_
    cases hp
    obtain ⟨x, σ1⟩ := q
    obtain ⟨e, h⟩ := wv_val he
    cases e
    exact k x hq h
theorem iv_enum {args : List ME} (he : evI r σ ρ .enum args = some (l, st, σ')) (k : ∀ l0, evL r ρ σ args = some ([.d (.lst l0)], σ') → l = dEnum 0 l0 → st = none → PP) : PP :=
  bE (show Option.bind _ _ = _ from he) fun p hp he => by
    obtain ⟨xs, σ1⟩ := p
    obtain ⟨l0, e1, e2, e3, e4⟩ := wv_enum he
    subst e1 e4
    exact k l0 hp e2 e3
theorem wv_range {xs : List W} {σ1 : Store} (he : (match (IK.range : IK), xs with
    | .val, [.d (.lst l)] => if l.length ≤ big then some (l, (none : Option (Nat × List D)), σ1) else none
    | .val, [.m i] => (σ1[i]?).bind fun l => if l.length ≤ big then some (l, some (i, l), σ1) else none
    | .enum, [.d (.lst l)] => if l.length ≤ big then some (dEnum 0 l, none, σ1) else none
    | .range, ws => (wDs ws).bind fun ds => (dRange ds).map fun l => (l, none, σ1)
    | _, _ => none) = some (l, st, σ')) : ((wDs xs).bind fun ds => (dRange ds).map fun l => (l, (none : Option (Nat × List D)), σ1)) = some (l, st, σ') := by
  cases xs with
  | nil => exact he
  | cons a xs => exact he
theorem iv_range {args : List ME} (he : evI r σ ρ .range args = some (l, st, σ')) (k : ∀ xs ds, evL r ρ σ args = some (xs, σ') → wDs xs = some ds → dRange ds = some l → st = none → PP) : PP :=
  bE (show Option.bind _ _ = _ from he) fun p hp he => by
    refine bE (wv_range he) fun ds hd e => mE e fun l0 hl e => ?_
    obtain ⟨xs, σ1⟩ := p
    cases e
    exact k _ _ hp hd hl rfl
end

theorem snd_enum {a : Addr} {vs : List Value} {n : Nat} {l0 : List D} {h' : Heap} {tk : Nat} {Z' : Zd} {α' : List Addr} (e : Ext O B (fun _ => False) Z α s.heap Z' α' σ' h') (z : Z' a (listOf vs.toArray n)) (r1 : RDs O Z' vs l0) {P : Value → Shared → Prop}
    (K : Started O B Z α s .enum (dEnum 0 l0) none σ' P) : wpAny (model prog w) A (call (.type "enumerate") [.ref a]) (fun x s₁ => wpAny (model prog w) A (pyIter x) P E s₁) E { s with heap := h', toks := tk } := by
  refine call_enumerate_list (isList_of (e.inv.led _ _ z)) fun h'' he hit hsz hk => ?_
  refine wpAny_pyIter_enum he ?_
  have e2 := e.trans (Ext.of_keeps (X := fun _ => False) e.inv hk)
  have ne : h'.objs.size + 1 ≠ h'.objs.size := Nat.succ_ne_self _
  refine K _ [h'.objs.size + 1, h'.objs.size] _ tk Z' α' e2 (fun b hb => ?_) (fun b hb => ?_) (ItSt.enm (i := 0) he hit ne z r1) rfl (fun _ => rfl)
  · rcases List.mem_cons.mp hb with rfl | hb
    · exact none_back e (none_top1 _)
    · rw [List.mem_singleton.mp hb]; exact none_back e (get_top_none _)
  · rcases List.mem_cons.mp hb with rfl | hb
    · exact fresh_off e.inv (none_top1 _) ⟨_, he⟩
    · rw [List.mem_singleton.mp hb]
      obtain ⟨o, ho, _⟩ := hit
      exact fresh_off e.inv (get_top_none _) ⟨_, ho⟩

theorem snd_range {vs : List Value} {ds l : List D} {h' : Heap} {tk : Nat} {Z' : Zd} {α' : List Addr} (e : Ext O B (fun _ => False) Z α s.heap Z' α' σ' h') (rd : RDs O Z' vs ds) (hr : dRange ds = some l) {P : Value → Shared → Prop}
    (K : Started O B Z α s .range l none σ' P) : wpAny (model prog w) A (call (.type "range") vs) (fun x s₁ => wpAny (model prog w) A (pyIter x) P E s₁) E { s with heap := h', toks := tk } := by
  match ds, hr with
  | [a], hr =>
    refine bE ((dR1 a).symm.trans hr) fun n hn e1 => iR (R := fun l => Started O B Z α s .range l none σ' P) e1 K fun hc K => ?_
    obtain ⟨t, rfl⟩ := rd.int1 hn
    refine call_range_1 ?_
    have q := rs_one 0 n
    rw [Int.sub_zero] at q
    exact start_range (s := s) e (rng_small (by decide) (and_l hc) (.inl rfl) q (of_decide_eq_true (and_r hc))) q K
  | [a, c], hr =>
    refine bE ((dR2 a c).symm.trans hr) fun n hn e1 => bE e1 fun m hm e1 => iR (R := fun l => Started O B Z α s .range l none σ' P) e1 K fun hc K => ?_
    obtain ⟨t, u, rfl⟩ := rd.int2 hn hm
    refine call_range_2 ?_
    exact start_range (s := s) e (rng_small (and_l (and_l hc)) (and_r (and_l hc)) (.inl rfl) (rs_one n m) (of_decide_eq_true (and_r hc))) (rs_one n m) K
  | [a, c, d], hr =>
    refine bE ((dR3 a c d).symm.trans hr) fun n hn e1 => bE e1 fun m hm e1 => bE e1 fun j hj e1 => iR (R := fun l => Started O B Z α s .range l none σ' P) e1 K fun hc K => ?_
    obtain ⟨t, u, v, rfl⟩ := rd.int3 hn hm hj
    obtain rfl := of_decide_eq_true (and_r (and_l hc))
    refine call_range_3 (by decide) ?_ (.inl (PyProof.noPylong_small (by decide)))
    exact start_range (s := s) e (rng_small (and_l (and_l (and_l hc))) (and_r (and_l (and_l hc))) (.inr rfl) (rs_two n m) (half_le (of_decide_eq_true (and_r hc)))) (rs_two n m) K
  | a :: c :: d :: x :: r, hr => rw [dR4] at hr; cases hr

theorem sndI (Gd : Gl O T B prog w b F G srt mg mb) (hE : SndE O T B prog w b r) (rm : Room A b) {iter : PySem.Expr} {k : IK} {args : List ME} (hc : CI T C iter k args) (I : Inv O B Z α σ s.heap) (Fm : Frm O Z α C env ρ s.heap) (hl : ρ.length = C.xs.length)
    {l : List D} {st : Option (Nat × List D)} (he : evI r σ ρ k args = some (l, st, σ')) {P : Value → Shared → Prop} (K : Started O B Z α s k l st σ' P) :
    wpAny (model prog w) A (eval iter env) (fun x s₁ => wpAny (model prog w) A (pyIter x) P E s₁) E s := by
  cases hc with
  | val hf h1 =>
    exact iv_val he fun x hx h => hE C _ _ h1 A s env Z α σ σ' ρ x _ _ rm I Fm hl hx fun v h' tk Z' α' e rr => start_list e rr h K
  | range hx hk h1 =>
    subst hx
    have h2 := h1
    refine iv_range he fun xs ds hp hd hr e1 => ?_
    subst e1
    refine PyProof.Rows.Call_ (load_blt Gd I Fm hk (by decide +kernel) Gd.rn.1 Gd.rn.2 (call_ty h2 ?_))
    exact sndL hE rm _ _ _ s Z α σ _ xs _ h1 I Fm hl hp fun vs h' tk Z' α' e rr => snd_range e (rr.frozen hd) hr K
  | enum hx hk hs h1 =>
    subst hx
    have h2 : CEs T C [_] [_] := .cons hs h1 .nil
    refine iv_enum he fun l0 hp e1 e2 => ?_
    subst e1 e2
    refine PyProof.Rows.Call_ (load_blt Gd I Fm hk (by decide +kernel) Gd.en.1 Gd.en.2 (call_ty h2 ?_))
    refine sndL hE rm _ _ _ s Z α σ σ' _ _ h2 I Fm hl hp fun vs h' tk Z' α' e rr => ?_
    obtain ⟨v, rfl, r1⟩ := rr.one rfl
    obtain ⟨a, vs, n, rfl, z, r1⟩ := (wD_of r1 rfl).isLst rfl
    exact snd_enum e z r1 K
end
end Mine


namespace Mine

/-! a comprehension's own frame -/
theorem cf_mem {x : Str} {c : Addr} : ∀ (names : List (Str × NameKind)) (n : Nat) (acc : List (Str × Addr)), (x, c) ∈ cellsFrom n names acc → (x, c) ∈ acc ∨ (n ≤ c ∧ (x, NameKind.cell) ∈ names)
  | [], _, _, h => .inl h
  | (y, k) :: r, n, acc, h => by
    unfold cellsFrom at h
    split at h
    · rename_i hk
      have hk' : k = .cell := by simpa using hk
      subst hk'
      rcases cf_mem r (n + 1) _ h with h | ⟨h1, h2⟩
      · rcases List.mem_cons.mp h with e | h
        · cases e; exact .inr ⟨Nat.le_refl _, by simp⟩
        · exact .inl h
      · exact .inr ⟨by omega, List.mem_cons_of_mem _ h2⟩
    · rcases cf_mem r n _ h with h | ⟨h1, h2⟩
      · exact .inl h
      · exact .inr ⟨h1, List.mem_cons_of_mem _ h2⟩

theorem cf_inj : ∀ (names : List (Str × NameKind)) (n : Nat) (acc : List (Str × Addr)), (∀ p ∈ acc, p.2 < n) → (∀ x y c, (x, c) ∈ acc → (y, c) ∈ acc → x = y) →
    ∀ x y c, (x, c) ∈ cellsFrom n names acc → (y, c) ∈ cellsFrom n names acc → x = y
  | [], _, _, _, h => h
  | (z, k) :: r, n, acc, hlt, h => by
    unfold cellsFrom
    split
    · refine cf_inj r (n + 1) _ (fun p hp => ?_) fun x y c h1 h2 => ?_
      · rcases List.mem_cons.mp hp with rfl | hp
        · exact Nat.lt_succ_self _
        · exact Nat.lt_succ_of_lt (hlt p hp)
      · rcases List.mem_cons.mp h1 with e1 | h1 <;> rcases List.mem_cons.mp h2 with e2 | h2
        · cases e1; cases e2; rfl
        · cases e1; exact absurd (hlt _ h2) (Nat.lt_irrefl _)
        · cases e2; exact absurd (hlt _ h1) (Nat.lt_irrefl _)
        · exact h x y c h1 h2
    · exact cf_inj r n _ hlt h

theorem cf_cell {x : Str} {c : Addr} : ∀ (names : List (Str × NameKind)) (h : Heap) (acc : List (Str × Addr)), (x, c) ∈ cellsFrom h.objs.size names acc → (x, c) ∈ acc ∨ (pushCells h names).IsCell c none
  | [], _, _, q => .inl q
  | (y, k) :: r, h, acc, q => by
    unfold cellsFrom at q
    unfold pushCells
    split at q
    · rename_i hk
      rw [if_pos hk]
      have q' : (x, c) ∈ cellsFrom (h.push { cls := .type "cell", data := .cell none }).objs.size r ((y, h.objs.size) :: acc) := by rw [Heap.size_push]; exact q
      rcases cf_cell r _ _ q' with q | q
      · rcases List.mem_cons.mp q with e | q
        · cases e; exact .inr ⟨_, pushCells_keeps r _ _ _ (Heap.get?_push_size _ rfl), rfl⟩
        · exact .inl q
      · exact .inr q
    · rename_i hk
      rw [if_neg hk]
      exact cf_cell r h acc q

section
variable {M : Model} {A : Around} {E : Value → Shared → Prop} {s : Shared}

theorem new_env {scope : Scope} {globals : Addr} {cl : List (Str × Addr)} {qual : Str} {outer : Env} {builtins : Addr} {Q : Env → Shared → Prop}
    (h : Q (newEnv scope s.heap.objs.size globals (cellsFrom (s.heap.objs.size + 1) scope.names cl) qual none .none (some outer) builtins)
      { s with heap := pushCells (s.heap.push { cls := .type "dict", data := .dict #[] }) scope.names }) :
    wpAny M A (newFunctionEnv scope globals cl [] qual none .none (some outer) builtins) Q E s := by
  simp only [newFunctionEnv, Option.isSome_some, if_true]
  refine wpAny_bind (wpAny_alloc ?_)
  refine wpAny_bind (wpAny_layCells _ (fun name kind cells => by cases hkc : kind == NameKind.cell <;> simp [hkc]) _ _ _ _ ?_)
  rw [show ({ s with heap := s.heap.push { cls := .type "dict", data := .dict #[] } } : Shared).heap.objs.size = s.heap.objs.size + 1 from Heap.size_push ..]
  rw [List.forIn_nil]
  exact wpAny_bind (wpAny_pure (wpAny_pure h))

/-- the cells that a comprehension takes over -/
noncomputable def clOf (cells : List (Str × Addr)) : List (Str × NameKind) → List (Str × Addr) → List (Str × Addr)
  | [], acc => acc
  | (x, k) :: r, acc => if k == .free then (match cells.lookup x with
      | some c => clOf cells r ((x, c) :: acc)
      | none => clOf cells r acc) else clOf cells r acc

theorem closure_eq {env : Env} {names : List (Str × NameKind)} (h : ∀ x ∈ names, x.2 = .free → ∃ c, env.cells.lookup x.1 = some c) (scope : Scope) (hs : scope.names = names) : closureFor scope env = pure (clOf env.cells names []) := by
  have key : ∀ (names : List (Str × NameKind)) (acc : List (Str × Addr)), (∀ x ∈ names, x.2 = .free → ∃ c, env.cells.lookup x.1 = some c) →
      (forIn names acc fun x r => (if (x.2 == NameKind.free) = true then do let c ← cellOf env x.1; pure (ForInStep.yield ((x.1, c) :: r)) else pure (ForInStep.yield r) : Sem _)) = pure (clOf env.cells names acc) := by
    intro names
    induction names with
    | nil => intro acc _; rfl
    | cons x r ih =>
      intro acc hx
      obtain ⟨x, k⟩ := x
      rw [List.forIn_cons]
      unfold clOf
      by_cases hk : (k == NameKind.free) = true
      · obtain ⟨c, hc⟩ := hx (x, k) (by simp) (by simpa using hk)
        have e : cellOf env x = pure c := by unfold cellOf; rw [hc]
        simp only [hk, if_true, e, hc, pure_bind]
        exact ih _ fun y hy => hx y (List.mem_cons_of_mem _ hy)
      · rw [if_neg hk, if_neg hk, pure_bind]
        exact ih _ fun y hy => hx y (List.mem_cons_of_mem _ hy)
  unfold closureFor
  rw [hs]
  exact congrArg (fun t => t >>= fun cs => pure cs) (key names [] h) |>.trans (by rfl)

theorem clOf_mem {cells : List (Str × Addr)} {x : Str} {c : Addr} : ∀ (names : List (Str × NameKind)) (acc : List (Str × Addr)), (x, c) ∈ clOf cells names acc → (x, c) ∈ acc ∨ (cells.lookup x = some c ∧ (x, NameKind.free) ∈ names)
  | [], _, h => .inl h
  | (y, k) :: r, acc, h => by
    unfold clOf at h
    split at h
    · rename_i hk
      have hk' : k = .free := by simpa using hk
      subst hk'
      split at h
      · rename_i c' hc
        rcases clOf_mem r _ h with h | ⟨h1, h2⟩
        · rcases List.mem_cons.mp h with e | h
          · cases e; exact .inr ⟨hc, by simp⟩
          · exact .inl h
        · exact .inr ⟨h1, List.mem_cons_of_mem _ h2⟩
      · rcases clOf_mem r _ h with h | ⟨h1, h2⟩
        · exact .inl h
        · exact .inr ⟨h1, List.mem_cons_of_mem _ h2⟩
    · rcases clOf_mem r _ h with h | ⟨h1, h2⟩
      · exact .inl h
      · exact .inr ⟨h1, List.mem_cons_of_mem _ h2⟩
theorem clOf_some {cells : List (Str × Addr)} {x : Str} : ∀ (names : List (Str × NameKind)) (acc : List (Str × Addr)), ((x, NameKind.free) ∈ names ∧ (∃ c, cells.lookup x = some c)) ∨ (acc.lookup x).isSome = true → ((clOf cells names acc).lookup x).isSome = true
  | [], _, h => h.elim (fun q => nomatch q.1) id
  | (y, k) :: r, acc, h => by
    unfold clOf
    by_cases hk : (k == NameKind.free) = true
    · rw [if_pos hk]
      split
      · rename_i c' hc
        refine clOf_some r _ ?_
        by_cases hy : (x == y) = true
        · exact .inr (by rw [List.lookup_cons, hy]; rfl)
        · rcases h with ⟨h1, h2⟩ | h
          · rcases List.mem_cons.mp h1 with e | h1
            · cases e; exact absurd (beq_self_eq_true x) hy
            · exact .inl ⟨h1, h2⟩
          · refine .inr ?_
            rw [List.lookup_cons]
            simp only [hy]
            exact h
      · rename_i hc
        refine clOf_some r _ ?_
        rcases h with ⟨h1, h2⟩ | h
        · rcases List.mem_cons.mp h1 with e | h1
          · cases e; obtain ⟨c, q⟩ := h2; rw [hc] at q; cases q
          · exact .inl ⟨h1, h2⟩
        · exact .inr h
    · rw [if_neg hk]
      refine clOf_some r _ ?_
      rcases h with ⟨h1, h2⟩ | h
      · rcases List.mem_cons.mp h1 with e | h1
        · cases e; exact absurd rfl hk
        · exact .inl ⟨h1, h2⟩
      · exact .inr h

theorem lookup_of_mem {x : Str} {k : NameKind} : ∀ {names : List (Str × NameKind)}, (names.map (·.1)).Nodup → (x, k) ∈ names → names.lookup x = some k
  | (y, j) :: r, hn, hm => by
    obtain ⟨h1, h2⟩ := List.nodup_cons.mp hn
    rw [List.lookup_cons]
    rcases List.mem_cons.mp hm with e | hm2
    · cases e; simp
    · have : (x == y) = false := by
        cases q : x == y with
        | false => rfl
        | true =>
          have := beq_iff_eq.mp q
          subst this
          exact absurd (List.mem_map.mpr ⟨_, hm2, rfl⟩) h1
      rw [this]
      exact lookup_of_mem h2 hm2

theorem lookup_relabel {env : Env} {x : Str} : ∀ {names : List (Str × NameKind)}, (names.map fun (n, k) => if (k == NameKind.free && env.scope.kind == .function && env.kindOf n == some .cell) then (n, NameKind.cell) else (n, k)).lookup x =
    (names.lookup x).map fun k => if (k == NameKind.free && env.scope.kind == .function && env.kindOf x == some .cell) then NameKind.cell else k
  | [] => rfl
  | (n, k) :: r => by
    have ih := @lookup_relabel env x r
    show List.lookup x ((if (k == NameKind.free && env.scope.kind == .function && env.kindOf n == some .cell) = true then (n, NameKind.cell) else (n, k)) :: _) = _
    by_cases hx : x == n
    · have := beq_iff_eq.mp hx
      subst this
      rw [List.lookup_cons_self]
      by_cases hc : (k == NameKind.free && env.scope.kind == .function && env.kindOf x == some .cell) = true
      · rw [if_pos hc, List.lookup_cons_self, Option.map_some, if_pos hc]
      · rw [if_neg hc, List.lookup_cons_self, Option.map_some, if_neg hc]
    · have hx' : (x == n) = false := by simpa using hx
      rw [List.lookup_cons (a := x) (b := k) (k := n), hx']
      by_cases hc : (k == NameKind.free && env.scope.kind == .function && env.kindOf n == some .cell) = true
      · rw [if_pos hc, List.lookup_cons, hx']; exact ih
      · rw [if_neg hc, List.lookup_cons, hx']; exact ih
end
end Mine


namespace Mine
section
variable {O : Nat → D} {T : Tb} {B : Heap} {prog : Program} {w : World} {b : Nat}
variable {r : EvT}
variable {A : Around} {s : Shared} {env : Env} {Z : Zd} {α : List Addr} {σ σ' : Store} {ρ : Rho} {C : Cx} {E : Value → Shared → Prop}

theorem xs_old {names : List (Str × NameKind)} {tg : List Str} {i : Nat} {x : Str} (hi : i < C.xs.length) (e : (cxIn C names tg).xs[i]? = some (some x)) : C.xs[i]? = some (some x) ∧ names.lookup x = some .free := by
  unfold cxIn at e
  simp only at e
  rw [List.getElem?_append_left (by rw [List.length_map]; exact hi), List.getElem?_map] at e
  cases q : C.xs[i]? with
  | none => rw [q] at e; cases e
  | some o =>
    rw [q] at e
    simp only [Option.map_some, Option.some.injEq] at e
    cases o with
    | none => cases e
    | some y =>
      simp only [Option.bind_some] at e
      split at e
      · rename_i h; cases e; exact ⟨rfl, h⟩
      · cases e
theorem xs_new {names : List (Str × NameKind)} {tg : List Str} {i : Nat} {x : Str} (hi : C.xs.length ≤ i) (e : (cxIn C names tg).xs[i]? = some (some x)) : tg[i - C.xs.length]? = some x := by
  unfold cxIn at e
  simp only at e
  rw [List.getElem?_append_right (by rw [List.length_map]; exact hi), List.length_map, List.getElem?_map] at e
  cases q : tg[i - C.xs.length]? with
  | none => rw [q] at e; cases e
  | some y => rw [q] at e; cases e; rfl
theorem rho_old {n i : Nat} {x : W} (hl : ρ.length = C.xs.length) (e : (ρ ++ List.replicate n (none : Option W))[i]? = some (some x)) : i < C.xs.length ∧ ρ[i]? = some (some x) := by
  by_cases hi : i < ρ.length
  · rw [List.getElem?_append_left hi] at e
    exact ⟨hl ▸ hi, e⟩
  · rw [List.getElem?_append_right (Nat.le_of_not_lt hi), List.getElem?_replicate] at e
    split at e <;> cases e

noncomputable def inEnv (env : Env) (scope : Scope) (L : Addr) : Env :=
  { newEnv scope L env.globals (cellsFrom (L + 1) scope.names (clOf env.cells scope.names [])) env.qual none .none (some env) builtinsNs with scope := relabel scope env }
noncomputable def inHeap (h : Heap) (scope : Scope) : Heap := pushCells (h.push { cls := .type "dict", data := .dict #[] }) scope.names

theorem inHeap_keeps (h : Heap) (scope : Scope) (a : Addr) (o : Obj) (e : h.get? a = some o) : (inHeap h scope).get? a = some o := pushCells_keeps _ _ _ _ (push_keeps _ _ _ _ e)

theorem in_frame {tg : List Str} {scope : Scope} {h : Heap} (I : Inv O B Z α σ h) (Fm : Frm O Z α C env ρ h) (hl : ρ.length = C.xs.length) (sc : scOk C scope tg) :
    Frm O Z α (cxIn C scope.names tg) (inEnv env scope h.objs.size) (ρ ++ List.replicate tg.length none) (inHeap h scope) := by
  obtain ⟨s1, s2, s3, s4, s5⟩ := sc
  have kf : ∀ x, (inEnv env scope h.objs.size).kindOf x = (scope.names.lookup x).map fun k => if (k == NameKind.free && env.scope.kind == .function && env.kindOf x == some .cell) then NameKind.cell else k := fun x => lookup_relabel
  have mem : ∀ {x k}, scope.names.lookup x = some k → (x, k) ∈ scope.names := fun e => mem_of_lookup e
  -- a cell of the new frame
  have cell : ∀ x c, (inEnv env scope h.objs.size).cells.lookup x = some c → (env.cells.lookup x = some c ∧ scope.names.lookup x = some .free) ∨ (h.objs.size + 1 ≤ c ∧ scope.names.lookup x = some .cell ∧ (inHeap h scope).IsCell c none) := by
    intro x c e
    have m : (x, c) ∈ cellsFrom (h.objs.size + 1) scope.names (clOf env.cells scope.names []) := mem_of_lookup e
    have frc : (x, c) ∈ clOf env.cells scope.names [] → env.cells.lookup x = some c ∧ scope.names.lookup x = some .free := fun q => by
      rcases clOf_mem _ _ q with q | ⟨q1, q2⟩
      · cases q
      · exact ⟨q1, lookup_of_mem s2 q2⟩
    rcases cf_mem _ _ _ m with q | ⟨q1, q2⟩
    · exact .inl (frc q)
    · have m' : (x, c) ∈ cellsFrom (h.push { cls := .type "dict", data := .dict #[] }).objs.size scope.names (clOf env.cells scope.names []) := by rw [Heap.size_push]; exact m
      rcases cf_cell _ _ _ m' with q | q
      · exact .inl (frc q)
      · exact .inr ⟨q1, lookup_of_mem s2 q2, q⟩
  have live : ∀ {a : Addr} {o : Obj}, h.get? a = some o → a < h.objs.size := fun e => Heap.lt_size e
  have zlt : ∀ {a : Addr}, h.objs.size ≤ a → (∀ o, ¬ Z a o) ∧ a ∉ α := fun ha =>
    ⟨fun o z => Nat.lt_irrefl _ (Nat.lt_of_lt_of_le (live (I.led _ o z)) ha), fun q => by obtain ⟨o, e⟩ := I.live q; exact Nat.lt_irrefl _ (Nat.lt_of_lt_of_le (live e) ha)⟩
  have ltc : ∀ {x c}, env.cells.lookup x = some c → c < h.objs.size := fun e => by
    obtain ⟨_, _, _, v, q⟩ := Fm.cz _ _ e
    exact q.lt
  refine ⟨s1, Fm.glb, Fm.blt, fun x e => ?_, fun x e => ?_, fun x e => ?_, fun x e => ?_, ⟨fun _ => none, (Heap.Ns.new h (.type "dict")).keeps (pushCells_keeps _ _), fun i x w e1 e2 e3 => ?_⟩, fun x e => ?_, fun i x w c e1 e2 e3 e4 => ?_, (zlt (Nat.le_refl _)).1, (zlt (Nat.le_refl _)).2, fun x c e => ?_, fun x y c e1 e2 => ?_, fun i j x e1 e2 => ?_⟩
  · rw [kf]; have e' : scope.names.lookup x = some .local := e; rw [e']; rfl
  · rw [kf]; have e' : scope.names.lookup x = some .globalImplicit := e; rw [e']; rfl
  · rw [kf]; have e' : scope.names.lookup x = some .cell := e; rw [e']; rfl
  · rw [kf]
    have e' : scope.names.lookup x = some .free := e
    rw [e', Option.map_some]
    split
    · exact .inl rfl
    · exact .inr rfl
  · obtain ⟨hi, _⟩ := rho_old hl e2
    have := (xs_old hi e1).2
    have e' : scope.names.lookup x = some .local := e3
    rw [this] at e'; cases e'
  · refine Option.isSome_iff_exists.mp (PySem.W.cellsFrom_some _ _ _ ?_)
    rcases e with e | e
    · exact .inl e
    · refine .inr (clOf_some _ _ (.inl ⟨mem e, ?_⟩))
      exact Fm.cs x (s3 _ (mem e) rfl)
  · obtain ⟨hi, e2'⟩ := rho_old hl e2
    obtain ⟨q1, q2⟩ := xs_old hi e1
    rcases cell x c e4 with ⟨q3, _⟩ | ⟨_, q4, _⟩
    · obtain ⟨v, q, rr⟩ := Fm.cv i x w c q1 e2' (s3 _ (mem q2) rfl) q3
      exact ⟨v, q.keeps (inHeap_keeps h scope), rr⟩
    · rw [q2] at q4; cases q4
  · rcases cell x c e with ⟨q, _⟩ | ⟨q, _, q2⟩
    · obtain ⟨n1, n2, n3, v, n4⟩ := Fm.cz x c q
      exact ⟨n1, n2, Nat.ne_of_lt (ltc q), v, n4.keeps (inHeap_keeps h scope)⟩
    · obtain ⟨n1, n2⟩ := zlt (Nat.le_of_succ_le q)
      exact ⟨n1, n2, Nat.ne_of_gt q, _, q2⟩
  · refine cf_inj scope.names (h.objs.size + 1) (clOf env.cells scope.names []) (fun p hp => ?_) (fun x y c q1 q2 => ?_) x y c (mem_of_lookup e1) (mem_of_lookup e2)
    · rcases clOf_mem (x := p.1) (c := p.2) _ _ hp with q | ⟨q, _⟩
      · cases q
      · exact Nat.lt_succ_of_lt (ltc q)
    · rcases clOf_mem _ _ q1 with q | ⟨q1, _⟩
      · cases q
      · rcases clOf_mem _ _ q2 with q | ⟨q2, _⟩
        · cases q
        · exact Fm.inj x y c q1 q2
  · have tgl : ∀ {i x}, tg[i]? = some x → scope.names.lookup x ≠ some .free := fun e q => by
      rcases s4 _ (List.mem_of_getElem? e) with h | h <;> rw [q] at h <;> cases h
    by_cases hi : i < C.xs.length <;> by_cases hj : j < C.xs.length
    · exact Fm.nd i j x (xs_old hi e1).1 (xs_old hj e2).1
    · exact absurd (xs_old hi e1).2 (tgl (xs_new (Nat.le_of_not_lt hj) e2))
    · exact absurd (xs_old hj e2).2 (tgl (xs_new (Nat.le_of_not_lt hi) e1))
    · have q1 := xs_new (Nat.le_of_not_lt hi) e1
      have q2 := xs_new (Nat.le_of_not_lt hj) e2
      obtain ⟨h1, h1'⟩ := List.getElem?_eq_some_iff.mp q1
      obtain ⟨h2, h2'⟩ := List.getElem?_eq_some_iff.mp q2
      have := (List.getElem_inj s5).mp (h1'.trans h2'.symm)
      omega

/-- the loop of a comprehension, its tuples let go -/
theorem comp_loop {elt target iter : PySem.Expr} {ifs : List PySem.Expr} {scope : Scope} {pos : Pos} {it acc : Value} {R : Result → Shared → Prop} (J : Nat → Shared → Prop)
    (turn : ∀ n s, J n s → wpAny (model prog w) A (pyNext it) (fun r s₁ => match r with
      | none => R (.ok .next) s₁
      | some v => wpAny (model prog w) A (letOwnedTupleGo target it v) (fun _ s₁' => wpAny (model prog w) A (assign target env v) (fun _ s₂ =>
          wpAny (model prog w) A (forIn ifs true fun c r => if r = true then do let ok ← isTrue c env (eval c env); pure (ForInStep.yield ok) else pure (ForInStep.yield r)) (fun ok s₃ =>
            if ok = true then wpAny (model prog w) A (eval elt env) (fun x s₄ =>
              wpAny (model prog w) A (call (.builtin "list.append") [acc, x]) (fun _ s₅ => ∃ m, m < n ∧ J m s₅) (notedBy (model prog w) A env fun e s' => R (.error e) s') s₄) (notedBy (model prog w) A env fun e s' => R (.error e) s') s₃
            else ∃ m, m < n ∧ J m s₃) (notedBy (model prog w) A env fun e s' => R (.error e) s') s₂) (notedBy (model prog w) A env fun e s' => R (.error e) s') s₁') (notedBy (model prog w) A env fun e s' => R (.error e) s') s₁) (notedBy (model prog w) A env fun e s' => R (.error e) s') s)
    (n : Nat) (h : J n s) : codeAny (model prog w) A (.compLoop (.ListComp elt [⟨target, iter, ifs, 0⟩] scope pos) 0 it acc env) R s := by
  refine codeAny_loop rfl J (fun n s hJ => ?_) n h
  show wpAny _ A ((compTurn (.ListComp elt [⟨target, iter, ifs, 0⟩] scope pos) 0 it acc env).onRaise (fun x => do noteFrame x env; theTreesLotGoes x)) _ _ s
  refine wpAny_noted ?_
  rw [compTurn_list]
  refine wpAny_bind (wpAny_standAt (wpAny_bind (wpAny_mono (turn n s hJ) (fun r s₁ h₁ => ?_) fun _ _ h' => h')))
  cases r with
  | none => exact wpAny_pure h₁
  | some v =>
    refine wpAny_bind (wpAny_mono h₁ (fun _ s₁' h₁' => wpAny_bind (wpAny_mono h₁' (fun _ s₂ h₂ => wpAny_bind (wpAny_mono h₂ (fun ok s₃ h₃ => ?_) fun _ _ h' => h')) fun _ _ h' => h')) fun _ _ h' => h')
    cases ok with
    | false => exact wpAny_pure ⟨rfl, h₃⟩
    | true => exact wpAny_bind (wpAny_bind (wpAny_mono h₃ (fun x s₄ h₄ => wpAny_bind (wpAny_mono h₄ (fun _ s₅ h₅ => wpAny_pure (wpAny_pure ⟨rfl, h₅⟩)) fun _ _ h' => h')) fun _ _ h' => h'))

theorem it_self {h : Heap} {I : Addr} {fp : List Addr} {st : Option (Nat × List D)} {l : List D} {tk : Nat} {Q : Value → Shared → Prop} (x : ItSt O Z α h I fp st l) (k : Q (.ref I) { s with heap := h, toks := tk }) :
    wpAny (model prog w) A (pyIter (.ref I)) Q E { s with heap := h, toks := tk } := by
  cases x with
  | lst a _ _ => exact wpAny_pyIter_listiter a k
  | chg a _ => exact wpAny_pyIter_listiter a k
  | rng a => exact wpAny_pyIter_rangeiter a k
  | enm a _ _ _ _ => exact wpAny_pyIter_enum a k
end
end Mine


namespace Mine
section
variable {O : Nat → D} {T : Tb} {B : Heap} {prog : Program} {w : World} {b : Nat}
variable {F : Nat → FnT} {G : Nat → Option D} {srt : List D → Option (List D)} {mg mb : Str → Option Value} {r : EvT}
variable {A : Around} {s : Shared} {env : Env} {Z : Zd} {α : List Addr} {σ σ' : Store} {ρ : Rho} {C : Cx} {E : Value → Shared → Prop}

/-- a loop's targets are bound -/
theorem snd_bind (hh : A.handled = none) {target : PySem.Expr} {tg : List Str} {is : List Nat} (ht : Tgt target tg) (hi : ∀ (j : Nat) x, tg[j]? = some x → ∃ i, is[j]? = some i ∧ C.xs[i]? = some (some x) ∧ i < ρ.length) (hn : is.length = tg.length)
    (hk : ∀ x ∈ tg, C.ks.lookup x = some .local ∨ C.ks.lookup x = some .cell) (I : Inv O B Z α σ s.heap) (Fm : Frm O Z α C env ρ s.heap) {v : Value} {d : D} (rv : RD O Z v d) {ρ' : Rho} (hb : bindT ρ is d = some ρ') {Q : Unit → Shared → Prop}
    (k : ∀ h' tk, Ext O B (FX C env) Z α s.heap Z α σ h' → Frm O Z α C env ρ' h' → Q () { s with heap := h', toks := tk }) : wpAny (model prog w) A (assign target env v) Q E s := by
  cases ht with
  | one =>
    obtain ⟨i, e1, e2, e3⟩ := hi 0 _ rfl
    have : is = [i] := by
      cases is with
      | nil => cases e1
      | cons a r =>
        cases e1
        cases r with
        | nil => rfl
        | cons _ _ => simp at hn
    subst this
    simp only [bindT, Option.some.injEq] at hb
    subst hb
    exact wpAny_assign_Name (store_name I Fm e2 e3 (hk _ (by simp)) (.d rv) k)
  | two =>
    rename_i x y p q rr kk
    obtain ⟨i, e1, e2, e3⟩ := hi 0 _ rfl
    obtain ⟨j, f1, f2, f3⟩ := hi 1 _ rfl
    have : is = [i, j] := by
      cases is with
      | nil => cases e1
      | cons a r =>
        cases e1
        cases r with
        | nil => cases f1
        | cons b r =>
          cases f1
          cases r with
          | nil => rfl
          | cons _ _ => simp at hn
    subst this
    unfold bindT at hb
    split at hb
    · simp at *
    · rename_i d1 d2 hq
      simp only [List.cons.injEq, and_true] at hq
      obtain ⟨rfl, rfl⟩ := hq
      cases hb
      cases rv with
      | tup z c e r =>
        cases r with
        | cons r1 r2 =>
          cases r2 with
          | cons r2 r3 =>
            cases r3
            rename_i a o n v1 v2
            refine wpAny_assign_Tuple hh (items := #[v1, v2]) ⟨o, I.led _ _ z, c, n, e⟩ rfl rfl fun h' he => ?_
            have ek := Ext.of_keeps (X := FX C env) I fun b p q => he b p (Nat.ne_of_lt (Heap.lt_size q)) q
            have ek0 := Ext.of_keeps (X := fun _ => False) I fun b p q => he b p (Nat.ne_of_lt (Heap.lt_size q)) q
            show wpAny (model prog w) A (assignInOrder [assign (.Name x p) env, assign (.Name y q) env] [v1, v2]) Q E _
            refine wpAny_assignInOrder_more (wpAny_assign_Name (store_name ek.inv (Fm.ext ek0) e2 e3 (hk _ (by simp)) (.d r1) fun h2 tk2 x2 F2 => ?_))
            refine wpAny_assignInOrder_more (wpAny_assign_Name (store_name x2.inv F2 f2 (by rw [List.length_set]; exact f3) (hk _ (by simp)) (.d r2) fun h3 tk3 x3 F3 => ?_))
            exact wpAny_assignInOrder_none (k h3 tk3 ((ek.trans x2).trans x3) F3)
    · cases hb

theorem Ext.tell {X : Addr → Prop} {h h1 : Heap} {Z1 : Zd} {α1 : List Addr} {σ1 : Store} (e : Ext O B X Z α h Z1 α1 σ1 h1) {a : Addr} {o : Obj} (ho : h1.get? a = some o) (na : a ∉ α1) (hn : h.get? a = none) : Ext O B X Z α h (Zadd Z1 a o) α1 σ1 h1 := by
  refine ⟨fun b p z => .inl (e.sub b p z), fun b p z => ?_, e.keep, e.live, e.pre, ⟨fun b p q => .inl (e.inv.base b p q), fun b p z => ?_, e.inv.len, fun i b l q1 q2 => ?_, fun b hb p z => ?_, e.inv.nodup⟩⟩
  · rcases z with z | ⟨rfl, rfl⟩
    · exact e.new b p z
    · exact .inr (.inl hn)
  · rcases z with z | ⟨rfl, rfl⟩
    · exact e.inv.led b p z
    · exact ho
  · obtain ⟨vs, n, g, r⟩ := e.inv.cell i b l q1 q2
    exact ⟨vs, n, g, r.mono fun _ _ z => .inl z⟩
  · rcases z with z | ⟨rfl, rfl⟩
    · exact e.inv.apart b hb p z
    · exact na hb

theorem Off.ext {X : Addr → Prop} {h h' : Heap} {Z' : Zd} {α' : List Addr} {fp : List Addr} (o : Off Z α h fp) (e : Ext O B X Z α h Z' α' σ' h') (nx : ∀ b ∈ fp, ¬ X b) : Off Z' α' h' fp := fun b hb => by
  obtain ⟨o1, o2, o3⟩ := o b hb
  have g := e.gone (nx b hb) o3
  exact ⟨g.1 o1, g.2 o2, e.live b _ (nx b hb) o3.choose_spec⟩

theorem in_cell {scope : Scope} {L : Addr} {x : Str} {c : Addr} (hn : (scope.names.map (·.1)).Nodup) (e : (inEnv env scope L).cells.lookup x = some c) :
    (env.cells.lookup x = some c ∧ scope.names.lookup x = some .free) ∨ (L + 1 ≤ c ∧ scope.names.lookup x = some .cell) := by
  have m : (x, c) ∈ cellsFrom (L + 1) scope.names (clOf env.cells scope.names []) := mem_of_lookup e
  rcases cf_mem _ _ _ m with q | ⟨q1, q2⟩
  · rcases clOf_mem _ _ q with q | ⟨q1, q2⟩
    · cases q
    · exact .inl ⟨q1, lookup_of_mem hn q2⟩
  · exact .inr ⟨q1, lookup_of_mem hn q2⟩

theorem bindT_app {tg : List Str} {target : PySem.Expr} (ht : Tgt target tg) {cur bs : List (Option W)} {x : D} (hc : cur.length = tg.length) (hb : binds1 (decide (tg.length = 2)) x = some bs) :
    ∃ is, is.length = tg.length ∧ (∀ j, j < tg.length → is[j]? = some (ρ.length + j)) ∧ bindT (ρ ++ cur) is x = some (ρ ++ bs) ∧ bs.length = tg.length := by
  cases ht with
  | one =>
    simp only [binds1, List.length_singleton] at hb
    cases hb
    match cur, hc with
    | [a], _ =>
      refine ⟨[ρ.length], rfl, fun j hj => ?_, ?_, rfl⟩
      · have : j = 0 := by simp at hj; omega
        subst this; rfl
      · simp only [bindT, Option.some.injEq]
        rw [List.set_append_right _ _ (Nat.le_refl _), Nat.sub_self]
        rfl
  | two =>
    simp only [binds1, List.length_cons, List.length_nil, Nat.zero_add, Nat.reduceAdd, decide_true, if_true] at hb
    split at hb
    · cases hb
      match cur, hc with
      | [a, c], _ =>
        refine ⟨[ρ.length, ρ.length + 1], rfl, fun j hj => ?_, ?_, rfl⟩
        · match j, hj with
          | 0, _ => rfl
          | 1, _ => rfl
        · simp only [bindT, Option.some.injEq]
          rw [List.set_append_right _ _ (Nat.le_refl _), Nat.sub_self, List.set_append_right _ _ (Nat.le_succ _), show (List.length ρ).succ - List.length ρ = 1 by omega]
          rfl
    · cases hb
end
end Mine


namespace Mine
section
variable {O : Nat → D} {T : Tb} {B : Heap} {prog : Program} {w : World} {b : Nat}
variable {F : Nat → FnT} {G : Nat → Option D} {srt : List D → Option (List D)} {mg mb : Str → Option Value} {r : EvT}
variable {A : Around} {s : Shared} {env : Env} {Z : Zd} {α : List Addr} {σ σ' : Store} {ρ : Rho} {C : Cx} {E : Value → Shared → Prop}

/-- what is known when a comprehension's loop is through -/
noncomputable def CompEnd (O : Nat → D) (B : Heap) (Z : Zd) (α : List Addr) (s : Shared) (ds : List D) (σ' : Store) (P : Addr → Addr → Shared → Prop) : Prop :=
  ∀ (acc L : Addr) (h1 : Heap) (tk : Nat) (Z1 : Zd) (α1 : List Addr) (ys : List Value) (n : Nat), Ext O B (fun a => s.heap.get? a = none) Z α s.heap Z1 α1 σ' h1 → s.heap.get? acc = none → s.heap.get? L = none → acc ≠ L → Off Z1 α1 h1 [acc, L] →
    (∃ m, h1.Ns L m) → h1.get? acc = some (listOf ys.toArray n) → RDs O Z1 ys ds → P acc L { s with heap := h1, toks := tk }

/-! what a comprehension's value tells -/
section
variable {elt : ME} {two : Bool} {st : Option (Nat × List D)} {cond : Option ME} {rest : List D} {P : Prop}
theorem iv_nil (h : evC r ρ elt two st cond σ [] = some (rest, σ')) : rest = [] ∧ σ = σ' := by
  cases h; exact ⟨rfl, rfl⟩
theorem iv_cons {x : D} {xs : List D} (h : evC r ρ elt two st cond σ (x :: xs) = some (rest, σ')) (k : ∀ bs t σ6, binds1 two x = some bs → (match cond with
      | none => some (true, σ)
      | some c => (r σ (ρ ++ bs) c).bind fun p => (asTru p.1).map fun b => (b, p.2)) = some (t, σ6) → (t = false → stays st σ6 = true ∧ evC r ρ elt two st cond σ6 xs = some (rest, σ')) →
      (t = true → ∃ q y rest', r σ6 (ρ ++ bs) elt = some q ∧ wD q.1 = some y ∧ stays st q.2 = true ∧ evC r ρ elt two st cond q.2 xs = some (rest', σ') ∧ rest = y :: rest') → P) : P :=
  bE (show Option.bind _ _ = _ from h) fun bs hbs h => bE h fun p hp h => k bs p.1 p.2 hbs hp
    (fun e => iE ((if_neg (by rw [e]; exact Bool.false_ne_true)).symm.trans h) fun s h => ⟨s, h⟩)
    (fun e => bE ((if_pos e).symm.trans h) fun q hq h => bE h fun y hy h => iE h fun s h => mE h fun t ht h => by cases h; exact ⟨q, y, t.1, hq, hy, s, ht, rfl⟩)
end

theorem evC_len : ∀ {elt : ME} {two : Bool} {st : Option (Nat × List D)} {cond : Option ME} (l : List D) (σ σ' : Store) (ds : List D), evC r ρ elt two st cond σ l = some (ds, σ') → ds.length ≤ l.length
  | _, _, _, _, [], _, _, _, h => by rw [(iv_nil h).1]; exact Nat.le_refl _
  | elt, two, st, cond, x :: xs, σ, σ', ds, h => iv_cons h fun bs t σ6 _ _ k1 k2 => by
    cases t with
    | false => exact Nat.le_succ_of_le (evC_len xs _ _ _ (k1 rfl).2)
    | true =>
      obtain ⟨q, y, rest', _, _, _, e, rfl⟩ := k2 rfl
      exact Nat.succ_le_succ (evC_len xs _ _ _ e)

theorem snd_tests (hT : SndT O T B prog w b r) (rm : Room A b) {ifs : List PySem.Expr} {cond : Option ME} (I : Inv O B Z α σ s.heap) (Fm : Frm O Z α C env ρ s.heap) (hl : ρ.length = C.xs.length) {t : Bool}
    (he : (match cond with
      | none => some (true, σ)
      | some c => (r σ ρ c).bind fun p => (asTru p.1).map fun b => (b, p.2)) = some (t, σ')) (hc : CC T C ifs cond) {Q : Bool → Shared → Prop}
    (k : ∀ h' tk Z' α', Ext O B (fun _ => False) Z α s.heap Z' α' σ' h' → Q t { s with heap := h', toks := tk }) :
    wpAny (model prog w) A (forIn ifs true fun c r => if r = true then do let ok ← isTrue c env (eval c env); pure (ForInStep.yield ok) else pure (ForInStep.yield r)) Q E s := by
  cases hc with
  | none =>
    simp only [Option.some.injEq, Prod.mk.injEq] at he
    obtain ⟨rfl, rfl⟩ := he
    exact wpAny_tests_nil (k s.heap s.toks Z α (Ext.refl I))
  | some h1 =>
    obtain ⟨p, hp, he⟩ := Option.bind_eq_some_iff.mp he
    obtain ⟨b', hb, he⟩ := Option.map_eq_some_iff.mp he
    cases he
    exact wpAny_tests_one (hT C _ _ h1 A s env Z α σ p.2 ρ p.1 _ _ _ rm I Fm hl hp hb k)

/-- what holds ahead of each turn of a comprehension -/
inductive CompAt (O : Nat → D) (B : Heap) (r : EvT) (Z : Zd) (α : List Addr) (s : Shared) (ρ : Rho) (C : Cx) (env : Env) (m : Nat) (I0 : Addr) (fp : List Addr) (st : Option (Nat × List D)) (e' : ME) (two : Bool) (cond : Option ME) (σ' : Store) (ds : List D) (D0 : Addr) : Nat → Shared → Prop
  | mk {h3 : Heap} {tk : Nat} {Z3 : Zd} {α3 : List Addr} {σ3 : Store} {cur : List (Option W)} {l3 rest done : List D} {ys : List Value} {ep : Nat} : Ext O B (fun a => s.heap.get? a = none) Z α s.heap Z3 α3 σ3 h3 → cur.length = m → Frm O Z3 α3 C env (ρ ++ cur) h3 →
      ItSt O Z3 α3 h3 I0 fp st l3 → stays st σ3 = true → evC r ρ e' two st cond σ3 l3 = some (rest, σ') → done ++ rest = ds → h3.get? D0 = some (listOf ys.toArray ep) → RDs O Z3 ys done → Off Z3 α3 h3 (D0 :: fp) → ys.length + l3.length ≤ sizeLine →
      CompAt O B r Z α s ρ C env m I0 fp st e' two cond σ' ds D0 (l3.length + 1) { s with heap := h3, toks := tk }

theorem off_cons {Z : Zd} {α : List Addr} {h : Heap} {a : Addr} {fp : List Addr} (h1 : Off Z α h [a]) (h2 : Off Z α h fp) : Off Z α h (a :: fp) := fun b hb => by
  rcases List.mem_cons.mp hb with rfl | hb
  · exact h1 _ (List.mem_singleton.mpr rfl)
  · exact h2 b hb
theorem off_tail {Z : Zd} {α : List Addr} {h : Heap} {a : Addr} {fp : List Addr} (h1 : Off Z α h (a :: fp)) : Off Z α h fp := fun b hb => h1 b (List.mem_cons_of_mem _ hb)
theorem off_head {Z : Zd} {α : List Addr} {h : Heap} {a : Addr} {fp : List Addr} (h1 : Off Z α h (a :: fp)) : Off Z α h [a] := fun b hb => h1 b (by rw [List.mem_singleton.mp hb]; exact List.mem_cons_self)
theorem off_here {Z : Zd} {α : List Addr} {h : Heap} {a : Addr} {fp : List Addr} (h1 : Off Z α h (a :: fp)) : a ∉ α := (h1 a List.mem_cons_self).2.1
theorem not_one {X : Addr → Prop} {a : Addr} (h : ¬ X a) : ∀ b ∈ [a], ¬ X b := fun b hb => by rw [List.mem_singleton.mp hb]; exact h
theorem Ext.pfx {X : Addr → Prop} {h h' : Heap} {Z Z' : Zd} {α α' : List Addr} {σ' : Store} (x : Ext O B X Z α h Z' α' σ' h') : ∃ β, α' = α ++ β := by
  obtain ⟨β, e, _⟩ := x.pre; exact ⟨β, e⟩

/-- one turn, behind its binding -/
theorem comp_turn (hE : SndE O T B prog w b r) (hT : SndT O T B prog w b r) (rm : Room A b) {elt : PySem.Expr} {ifs : List PySem.Expr} {e' : ME} {two : Bool} {cond : Option ME} {m : Nat} (he : CE T C elt e') (hcc : CC T C ifs cond) (lx : C.xs.length = ρ.length + m)
    {ds : List D} {st : Option (Nat × List D)} {I0 D0 : Addr} {fp : List Addr} (sD : s.heap.get? D0 = none) (nDL : D0 ≠ env.locals) (nDf : D0 ∉ fp) (cel : ∀ x c, env.cells.lookup x = some c → c ≠ D0)
    {h5 : Heap} {tk5 : Nat} {Z5 : Zd} {α5 : List Addr} {σ5 : Store} {bs : List (Option W)} {l4 rest done : List D} {ys : List Value} {ep : Nat} (x5 : Ext O B (fun a => s.heap.get? a = none) Z α s.heap Z5 α5 σ5 h5) (hbs : bs.length = m) (F5 : Frm O Z5 α5 C env (ρ ++ bs) h5)
    (it5 : ItSt O Z5 α5 h5 I0 fp st l4) (o5 : Off Z5 α5 h5 (D0 :: fp)) (g5 : h5.get? D0 = some (listOf ys.toArray ep)) (r5 : RDs O Z5 ys done) (hd : done ++ rest = ds) (sz : ys.length + (l4.length + 1) ≤ sizeLine) {t : Bool} {σ6 : Store}
    (hp : (match (generalizing := false) cond with
      | none => some (true, σ5)
      | some c => (r σ5 (ρ ++ bs) c).bind fun p => (asTru p.1).map fun b => (b, p.2)) = some (t, σ6)) (k1 : t = false → stays st σ6 = true ∧ evC r ρ e' two st cond σ6 l4 = some (rest, σ'))
    (k2 : t = true → ∃ q y rest', r σ6 (ρ ++ bs) e' = some q ∧ wD q.1 = some y ∧ stays st q.2 = true ∧ evC r ρ e' two st cond q.2 l4 = some (rest', σ') ∧ rest = y :: rest') :
    wpAny (model prog w) A (forIn ifs true fun c r => if r = true then do let ok ← isTrue c env (eval c env); pure (ForInStep.yield ok) else pure (ForInStep.yield r)) (fun ok s₃ =>
      if ok = true then wpAny (model prog w) A (eval elt env) (fun x s₄ => wpAny (model prog w) A (call (.builtin "list.append") [.ref D0, x]) (fun _ s₅ => ∃ k, k < l4.length + 1 + 1 ∧ CompAt O B r Z α s ρ C env m I0 fp st e' two cond σ' ds D0 k s₅) E s₄) E s₃
      else ∃ k, k < l4.length + 1 + 1 ∧ CompAt O B r Z α s ρ C env m I0 fp st e' two cond σ' ds D0 k s₃) E { s with heap := h5, toks := tk5 } := by
  have hl5 : (ρ ++ bs).length = C.xs.length := by rw [List.length_append, lx, hbs]
  refine snd_tests (s := { s with heap := h5, toks := tk5 }) hT rm x5.inv F5 hl5 hp hcc fun h6 tk6 Z6 α6 x6 => ?_
  have F6 := F5.ext x6
  have x36 := x5.trans (x6.weaken (Y := fun a => s.heap.get? a = none) fun a o _ q => q.elim)
  have o6 := o5.ext x6 (fun _ _ q => q)
  have g6 := x6.keep D0 _ (off_here o5) (fun q => q) g5
  have it6 : ItSt O Z6 α6 h6 I0 fp st l4 := it5.keep (fun b hb o q => x6.keep b o (off_tail o5 b hb).2.1 (fun q => q) q) x6.sub x6.pfx
  have r6 := r5.mono x6.sub
  cases t with
  | false => exact ⟨l4.length + 1, Nat.lt_succ_self _, .mk x36 hbs F6 it6 (k1 rfl).1 (k1 rfl).2 hd g6 r6 o6 (Nat.le_of_succ_le sz)⟩
  | true =>
    obtain ⟨q, y, rest', hq, hy, st7, ht7, e⟩ := k2 rfl
    refine hE _ _ _ he A { s with heap := h6, toks := tk6 } env Z6 α6 σ6 q.2 (ρ ++ bs) q.1 _ _ rm x6.inv F6 hl5 hq fun v7 h7 tk7 Z7 α7 x7 rv7 => ?_
    have x37 := x36.trans (x7.weaken (Y := fun a => s.heap.get? a = none) fun a o _ q => q.elim)
    have o7 := o6.ext x7 (fun _ _ q => q)
    have g7 := x7.keep D0 _ (off_here o6) (fun q => q) g6
    have it7 : ItSt O Z7 α7 h7 I0 fp st l4 := it6.keep (fun b hb o q => x7.keep b o (off_tail o6 b hb).2.1 (fun q => q) q) x7.sub x7.pfx
    refine wpAny_list_append_plain (s := { s with heap := h7, toks := tk7 }) (l := D0) (items := ys.toArray) ⟨ep, g7⟩ (fun h8 hp8 hs8 => ?_) (by rw [List.size_toArray]; omega)
    obtain ⟨ep8, g8⟩ := hp8
    have x8 : Ext O B (· ∈ [D0]) Z7 α7 h7 Z7 α7 q.2 h8 := ext_own (s := { s with heap := h7, toks := tk7 }) x7.inv (off_head o7) fun b o n e => (hs8.2 b (fun qq => n (List.mem_singleton.mpr qq))).trans e
    have nfD : ∀ b ∈ fp, b ∉ [D0] := fun b hb q => nDf (by rw [← List.mem_singleton.mp q]; exact hb)
    have it8 : ItSt O Z7 α7 h8 I0 fp st l4 := it7.keep (fun b hb o q => x8.keep b o (off_tail o7 b hb).2.1 (nfD b hb) q) (fun _ _ z => z) ⟨[], (List.append_nil _).symm⟩
    refine ⟨l4.length + 1, Nat.lt_succ_self _, .mk (done := done ++ [y]) (ys := ys ++ [v7]) (ep := ep8) (x37.trans (x8.weaken (Y := fun a => s.heap.get? a = none) fun a o _ q => by rw [List.mem_singleton.mp q]; exact sD)) hbs ((F6.ext x7).extX x8 (fun q => nDL (List.mem_singleton.mp q).symm) fun x c e q => cel x c e (List.mem_singleton.mp q)) it8 st7 ht7
      (by rw [List.append_assoc, ← hd, e]; rfl) ?_ ((r6.mono x7.sub).append (.cons (wD_of rv7 hy) .nil)) (off_cons (off_one (off_head o7) ⟨_, g8⟩) ((off_tail o7).ext x8 nfD)) (by rw [List.length_append, List.length_singleton]; omega)⟩
    rw [g8]
    simp

/-- the turns of a comprehension -/
theorem comp_turns (hE : SndE O T B prog w b r) (hT : SndT O T B prog w b r) (rm : Room A b) {elt target iter : PySem.Expr} {ifs : List PySem.Expr} {scope : Scope} {pos : Pos} {e' : ME} {two : Bool} {cond : Option ME} {tg : List Str}
    (ht : Tgt target tg) (htwo : two = decide (tg.length = 2)) (he : CE T C elt e') (hcc : CC T C ifs cond) (hx : ∀ (j : Nat) y, tg[j]? = some y → C.xs[ρ.length + j]? = some (some y)) (hk : ∀ x ∈ tg, C.ks.lookup x = some .local ∨ C.ks.lookup x = some .cell) (lx : C.xs.length = ρ.length + tg.length)
    {ds : List D} {st : Option (Nat × List D)} {I0 D0 : Addr} {fp : List Addr} (sD : s.heap.get? D0 = none) (sL : s.heap.get? env.locals = none) (ffp : ∀ b ∈ fp, s.heap.get? b = none) (nDL : D0 ≠ env.locals) (nLf : env.locals ∉ fp) (nDf : D0 ∉ fp)
    (cel : ∀ x c, env.cells.lookup x = some c → c ∉ fp ∧ c ≠ D0) (fxn : ∀ a, FX C env a → s.heap.get? a = none) (h2 : fp.length = 2 → two = true) {RR : Value → Addr → Result → Shared → Prop} (K : CompEnd O B Z α s ds σ' (fun acc L s' => RR (.ref acc) L (.ok .next) s'))
    {n : Nat} {s0 : Shared} (H : CompAt O B r Z α s ρ C env tg.length I0 fp st e' two cond σ' ds D0 n s0) :
    codeAny (model prog w) A (.compLoop (.ListComp elt [⟨target, iter, ifs, 0⟩] scope pos) 0 (.ref I0) (.ref D0) env) (RR (.ref D0) env.locals) s0 := by
  refine comp_loop (CompAt O B r Z α s ρ C env tg.length I0 fp st e' two cond σ' ds D0) (fun n s' H => ?_) n H
  have nfxD : ¬ FX C env D0 := fun q => by
    rcases q with q | ⟨y, _, q⟩
    · exact nDL q
    · exact (cel y _ q).2 rfl
  have nfxf : ∀ b ∈ fp, ¬ FX C env b := fun b hb q => by
    rcases q with q | ⟨y, _, q⟩
    · exact nLf (by rw [← show b = env.locals from q]; exact hb)
    · exact (cel y _ q).1 hb
  have tgt : TgOk two target := by
    unfold TgOk
    rw [htwo]
    cases ht with
    | one => rw [if_neg (by simp)]; exact ⟨_, _, rfl⟩
    | two => rw [if_pos (by simp)]; exact ⟨_, _, _, rfl⟩
  cases H with
  | @mk h3 tk Z3 α3 σ3 cur l3 rest done ys ep x3 hcur F3 it3 st3 ev3 hd3 g3 r3 o3 sz3 =>
    cases l3 with
    | nil =>
      refine it_done (s := { s with heap := h3, toks := tk }) x3.inv rm.handled it3 (off_tail o3) st3 fun h4 tk4 x4 => ?_
      have F4 := F3.extX x4 nLf fun x c q => (cel x c q).1
      obtain ⟨m, hm, _⟩ := F4.ns
      refine K D0 env.locals h4 tk4 Z3 α3 ys ep ?_ sD sL nDL ?_ ⟨m, hm⟩ (x4.keep D0 _ (off_here o3) nDf g3) ?_
      · rw [← (iv_nil ev3).2]; exact x3.trans (x4.weaken fun a o _ q => ffp a q)
      · exact off_cons ((off_head o3).ext x4 (not_one nDf)) fun b hb => by rw [List.mem_singleton.mp hb]; exact ⟨F4.lz, F4.la, Ns.live hm⟩
      · rw [← hd3, (iv_nil ev3).1, List.append_nil]; exact r3
    | cons x l4 =>
      refine iv_cons ev3 fun bs t σ6 hbs hp k1 k2 => ?_
      have xtup : two = true → ∃ ds, x = .tup ds := fun q => by
        unfold binds1 at hbs
        rw [if_pos q] at hbs
        split at hbs
        · exact ⟨_, rfl⟩
        · cases hbs
      refine it_item (s := { s with heap := h3, toks := tk }) x3.inv tgt xtup h2 it3 (off_tail o3) st3 fun v h4 tk4 Z4 x4 rv it4 ofp4 => ?_
      have F4 := F3.extX x4 nLf fun x c q => (cel x c q).1
      have oD4 := (off_head o3).ext x4 (not_one nDf)
      have g4 := x4.keep D0 _ (off_here o3) nDf g3
      rw [htwo] at hbs
      obtain ⟨is, n1, n2, n3, n4⟩ := bindT_app (ρ := ρ) ht hcur hbs
      refine snd_bind (s := { s with heap := h4, toks := tk4 }) (C := C) rm.handled (is := is) ht (fun j y q => ?_) n1 hk x4.inv F4 rv n3 fun h5 tk5 x5 F5 => ?_
      · have hj : j < tg.length := (List.getElem?_eq_some_iff.mp q).1
        exact ⟨ρ.length + j, n2 j hj, hx j y q, by rw [List.length_append, hcur]; omega⟩
      have x35 := (x3.trans (x4.weaken fun a o _ q => ffp a q)).trans (x5.weaken fun a o _ q => fxn a q)
      have it5 : ItSt O Z4 α3 h5 I0 fp st l4 := it4.keep (fun b hb o q => x5.keep b o (ofp4 b hb).2.1 (nfxf b hb) q) (fun _ _ z => z) ⟨[], (List.append_nil _).symm⟩
      exact comp_turn hE hT rm he hcc lx sD nDL nDf (fun x c q => (cel x c q).2) x35 n4 F5 it5 (off_cons (oD4.ext x5 (not_one nfxD)) (ofp4.ext x5 nfxf)) (x5.keep D0 _ (oD4 D0 (List.mem_singleton.mpr rfl)).2.1 nfxD g4) (r3.mono x4.sub) hd3 sz3 hp k1 k2

theorem comp_core (hE : SndE O T B prog w b r) (hT : SndT O T B prog w b r) (rm : Room A b) {elt target iter : PySem.Expr} {ifs : List PySem.Expr} {scope : Scope} {pos : Pos} {e' : ME} {two : Bool} {cond : Option ME} {tg : List Str}
    (sc : scOk C scope tg) (ht : Tgt target tg) (htwo : two = decide (tg.length = 2)) (he : CE T (cxIn C scope.names tg) elt e') (hcc : CC T (cxIn C scope.names tg) ifs cond)
    (Fm : Frm O Z α C env ρ s.heap) (hl : ρ.length = C.xs.length) {l ds : List D} {st : Option (Nat × List D)} {σ1 : Store} (hev : evC r ρ e' two st cond σ1 l = some (ds, σ')) (hsz : l.length ≤ sizeLine)
    {I0 : Addr} {fp : List Addr} {h1 : Heap} {tk1 : Nat} {Z1 : Zd} {α1 : List Addr} (e1 : Ext O B (fun _ => False) Z α s.heap Z1 α1 σ1 h1) (ffp : ∀ b ∈ fp, s.heap.get? b = none) (off : Off Z1 α1 h1 fp) (it : ItSt O Z1 α1 h1 I0 fp st l) (hst : stays st σ1 = true)
    (h2 : fp.length = 2 → two = true) {RR : Value → Addr → Result → Shared → Prop} (K : CompEnd O B Z α s ds σ' (fun acc L s' => RR (.ref acc) L (.ok .next) s')) :
    wpAny (model prog w) A (newList []) (fun acc s₃ => wpAny (model prog w) A (newFunctionEnv scope env.globals (clOf env.cells scope.names []) [] env.qual none .none (some env)) (fun cenv s₄ =>
      codeAny (model prog w) A (.compStart (.ListComp elt [⟨target, iter, ifs, 0⟩] scope pos) 0 (.ref I0) acc { cenv with scope := relabel scope env }) (RR acc cenv.locals) s₄) E s₃) E { s with heap := h1, toks := tk1 } := by
  refine wpAny_newObj_type ?_
  refine new_env ?_
  -- the objects made: the list, the frame, its cells
  have kp1 := push_keeps h1 { cls := .type "list", data := .seq ([] : List Value).toArray }
  have e2 := e1.trans (Ext.of_keeps (X := fun _ => False) e1.inv kp1)
  have Fm2 := Fm.ext e2
  have inf := in_frame e2.inv Fm2 hl sc
  have hL : (h1.push { cls := .type "list", data := .seq ([] : List Value).toArray }).objs.size = h1.objs.size + 1 := Heap.size_push ..
  have e3 := e2.trans (Ext.of_keeps (X := fun _ => False) e2.inv (inHeap_keeps (h1.push { cls := .type "list", data := .seq ([] : List Value).toArray }) scope))
  -- names for what is fixed
  obtain ⟨D0, hD0⟩ : ∃ a, a = h1.objs.size := ⟨_, rfl⟩
  obtain ⟨h2', hh2⟩ : ∃ h, h = h1.push { cls := .type "list", data := .seq ([] : List Value).toArray } := ⟨_, rfl⟩
  have sD : s.heap.get? D0 = none := by rw [hD0]; exact none_back e1 (get_top_none _)
  have sL : s.heap.get? h2'.objs.size = none := by rw [hh2]; exact none_back e2 (get_top_none _)
  have nDL : D0 ≠ h2'.objs.size := by rw [hD0, hh2, hL]; exact Nat.ne_of_lt (Nat.lt_succ_self _)
  have fpl : ∀ b ∈ fp, b < h1.objs.size := fun b hb => by obtain ⟨_, _, o, e⟩ := off b hb; exact Heap.lt_size e
  have nLf : h2'.objs.size ∉ fp := fun q => by have := fpl _ q; rw [hh2, hL] at this; exact Nat.lt_irrefl _ (Nat.lt_of_succ_lt this)
  have nDf : D0 ∉ fp := fun q => by have := fpl _ q; rw [hD0] at this; exact Nat.lt_irrefl _ this
  have cel : ∀ x c, (inEnv env scope h2'.objs.size).cells.lookup x = some c → c ∉ fp ∧ c ≠ D0 := fun x c q => by
    rcases in_cell sc.2.1 q with ⟨q, _⟩ | ⟨q, _⟩
    · obtain ⟨_, _, _, v, o, ho, _⟩ := Fm.cz x c q
      exact ⟨fun m => not_some_none (ffp c m) ho, fun m => not_some_none sD (m ▸ ho)⟩
    · rw [hh2, hL] at q
      refine ⟨fun m => Nat.lt_irrefl _ (Nat.lt_of_lt_of_le (fpl c m) (Nat.le_trans (Nat.le_succ _) (Nat.le_trans (Nat.le_succ _) q))), fun m => ?_⟩
      rw [m, hD0] at q
      exact Nat.lt_irrefl _ (Nat.lt_of_succ_lt q)
  have fxn : ∀ a, FX (cxIn C scope.names tg) (inEnv env scope h2'.objs.size) a → s.heap.get? a = none := fun a q => by
    rcases q with rfl | ⟨x, q1, q2⟩
    · exact sL
    · rcases in_cell sc.2.1 q2 with ⟨_, q⟩ | ⟨q, _⟩
      · have q1' : scope.names.lookup x = some .cell := q1
        rw [q] at q1'; cases q1'
      · have : h2'.get? a = none := by
          cases g : h2'.get? a with
          | none => rfl
          | some o => exact absurd (Heap.lt_size g) (Nat.not_lt.mpr (Nat.le_of_succ_le q))
        rw [hh2] at this
        exact none_back e2 this
  rw [← hh2] at inf e2 e3 kp1
  show codeAny (model prog w) A (.compStart (.ListComp elt [⟨target, iter, ifs, 0⟩] scope pos) 0 (.ref I0) (.ref h1.objs.size) (inEnv env scope (h1.push { cls := .type "list", data := .seq ([] : List Value).toArray }).objs.size))
    (RR (.ref h1.objs.size) (h1.push { cls := .type "list", data := .seq ([] : List Value).toArray }).objs.size) { s with heap := inHeap (h1.push { cls := .type "list", data := .seq ([] : List Value).toArray }) scope, toks := tk1 }
  rw [← hD0, ← hh2]
  -- the loop
  have loop : codeAny (model prog w) A (.compLoop (.ListComp elt [⟨target, iter, ifs, 0⟩] scope pos) 0 (.ref I0) (.ref D0) (inEnv env scope h2'.objs.size)) (RR (.ref D0) h2'.objs.size) { s with heap := inHeap h2' scope, toks := tk1 } := by
    refine comp_turns (env := inEnv env scope h2'.objs.size) hE hT rm ht htwo he hcc (fun j y q => ?_) sc.2.2.2.1 (by unfold cxIn; simp only [List.length_append, List.length_map]; rw [hl]) sD sL ffp nDL nLf nDf cel fxn h2 K
      (.mk (cur := List.replicate tg.length none) (done := []) (ys := []) (ep := 0) (e3.weaken (Y := fun a => s.heap.get? a = none) fun a o _ q => q.elim) List.length_replicate inf (it.keep (fun b hb o q => inHeap_keeps _ _ _ _ (kp1 _ _ q)) (fun _ _ z => z) ⟨[], (List.append_nil _).symm⟩) hst hev rfl ?_ .nil (off_cons ?_ fun b hb => ?_) (by rw [List.length_nil, Nat.zero_add]; exact hsz))
    · unfold cxIn
      simp only
      rw [List.getElem?_append_right (by rw [List.length_map, ← hl]; exact Nat.le_add_right _ _), List.length_map, ← hl, Nat.add_sub_cancel_left, List.getElem?_map, q]
      rfl
    · refine inHeap_keeps _ _ _ _ ?_
      rw [hD0, hh2]
      exact Heap.get?_push_size _ rfl
    · have g : h2'.get? h1.objs.size = some (listOf ([] : List Value).toArray 0) := by rw [hh2]; exact Heap.get?_push_size _ rfl
      intro b hb
      rw [List.mem_singleton.mp hb, hD0]
      exact fresh_off e1.inv (get_top_none _) ⟨_, inHeap_keeps _ _ _ _ g⟩
    · obtain ⟨o1, o2, o, o3⟩ := off b hb
      exact ⟨o1, o2, o, inHeap_keeps _ _ _ _ (kp1 _ _ o3)⟩
  have it9 : ItSt O Z1 α1 (inHeap h2' scope) I0 fp st l := it.keep (fun b hb o q => inHeap_keeps _ _ _ _ (kp1 _ _ q)) (fun _ _ z => z) ⟨[], by simp⟩
  exact codeAny_compStart_list loop (it_self (s := s) it9 loop)
end
end Mine


namespace Mine
section
variable {O : Nat → D} {T : Tb} {B : Heap} {prog : Program} {w : World} {b : Nat}
variable {F : Nat → FnT} {G : Nat → Option D} {srt : List D → Option (List D)} {mg mb : Str → Option Value} {r : EvT}
variable {A : Around} {s : Shared} {env : Env} {Z : Zd} {α : List Addr} {σ σ' : Store} {ρ : Rho} {C : Cx} {E : Value → Shared → Prop}

theorem no_marks (o : Cop) (e : PySem.Expr) : behindInMarks (cOp o) e = false := by
  unfold behindInMarks
  cases e <;> cases o <;> simp [cOp] <;> intros <;> rfl

theorem sub_plain {r : PySem.Expr} (h : isSlice r = false) (a : Addr) (k : Int) (u : Tok) : subscripted r false (.ref a) (.int k u) = operate [.ref a, .int k u] (getItem (.ref a) (.int k u)) := by
  cases r <;> first | rfl | cases h

theorem asTru_some {x : W} {t : Bool} (h : asTru x = some t) : x = .d (.bool t) := by
  cases x with
  | d x => cases x <;> simp [asTru] at h; rw [h]
  | m _ => cases h

/-- two words in turn -/
theorem snd_two (hE : SndE O T B prog w b r) (rm : Room A b) {l q : PySem.Expr} {a c : ME} (h1 : CE T C l a) (h2 : CE T C q c) (I : Inv O B Z α σ s.heap) (Fm : Frm O Z α C env ρ s.heap) (hl : ρ.length = C.xs.length) {x y : W} {σ1 σ2 : Store}
    (e1 : r σ ρ a = some (x, σ1)) (e2 : r σ1 ρ c = some (y, σ2)) {Q : Value → Value → Shared → Prop}
    (k : ∀ v u h' tk Z' α', Ext O B (fun _ => False) Z α s.heap Z' α' σ2 h' → RW O Z' α' v x → RW O Z' α' u y → Q v u { s with heap := h', toks := tk }) :
    wpAny (model prog w) A (eval l env) (fun v s₁ => wpAny (model prog w) A (eval q env) (fun u s₂ => Q v u s₂) E s₁) E s :=
  hE C _ _ h1 A s env Z α σ σ1 ρ x _ _ rm I Fm hl e1 fun v h' tk Z' α' x1 r1 =>
    hE C _ _ h2 A _ env Z' α' σ1 σ2 ρ y _ _ rm x1.inv (Fm.ext x1) hl e2 fun u h'' tk' Z'' α'' x2 r2 => k v u h'' tk' Z'' α'' (x1.trans x2) (x2.word r1) r2

theorem sndT_of (hE : SndE O T B prog w b r) (rm : Room A b) {l q : PySem.Expr} {o : Cop} {pos : Pos} {a c : ME} (h1 : CE T C l a) (h2 : CE T C q c) (I : Inv O B Z α σ s.heap) (Fm : Frm O Z α C env ρ s.heap) (hl : ρ.length = C.xs.length) {x y : W} {dx dy : D} {z : Bool} {σ1 σ2 : Store}
    (e1 : r σ ρ a = some (x, σ1)) (e2 : r σ1 ρ c = some (y, σ2)) (hx : wD x = some dx) (hy : wD y = some dy) (hz : dCmp o dx dy = some z) {whole : Sem Value} {Q : Bool → Shared → Prop}
    (k : ∀ h' tk Z' α', Ext O B (fun _ => False) Z α s.heap Z' α' σ2 h' → Q z { s with heap := h', toks := tk }) : wpAny (model prog w) A (isTrue (.Compare l [cOp o] [q] pos) env whole) Q E s := by
  refine wpAny_isTrue_Compare1 (snd_two hE rm h1 h2 I Fm hl e1 e2 fun v u h' tk Z' α' x1 r1 r2 => ?_) (no_marks o q)
  exact op_cmp (s := { s with heap := h', toks := tk }) x1.inv (rm.le (Nat.zero_le _)) (wD_of r1 hx) (wD_of r2 hy) hz (wpAny_truthy_bool (k h' tk Z' α' x1))

theorem K1.of_list {Q : Value → Shared → Prop} {x : W} {h1 : Heap} {Z1 : Zd} {α1 : List Addr} {σ1 : Store} {tk : Nat} (k : K1 O B Z α s Q x σ1) (e : Ext O B (fun _ => False) Z α s.heap Z1 α1 σ' h1) :
    K1 O B Z1 α1 { s with heap := h1, toks := tk } Q x σ1 := K1.after k e

/-- the truth of a compound test, part by part -/
theorem sndTl (N : Nat) : ∀ (es : List PySem.Expr) (_ : ∀ (e : PySem.Expr), e ∈ es → ∀ (me : ME) (n : Nat), n ≤ N → CT T C e me → ∀ (s : Shared) (Z : Zd) (α : List Addr) (σ σ' : Store) (x : W) (t : Bool) (Q : Bool → Shared → Prop), Inv O B Z α σ s.heap →
      Frm O Z α C env ρ s.heap → evE F G srt n σ ρ me = some (x, σ') → asTru x = some t →
      (∀ h' tk Z' α', Ext O B (fun _ => False) Z α s.heap Z' α' σ' h' → Q t { s with heap := h', toks := tk }) → wpAny (model prog w) A (isTrue e env (eval e env)) Q E s)
    (op : BoolOp) (me : ME) (n : Nat), n ≤ N → CTl T C op es me → ∀ (s : Shared) (Z : Zd) (α : List Addr) (σ σ' : Store) (x : W) (t : Bool) (Q : Bool → Shared → Prop), Inv O B Z α σ s.heap →
      Frm O Z α C env ρ s.heap → evE F G srt n σ ρ me = some (x, σ') → asTru x = some t →
      (∀ h' tk Z' α', Ext O B (fun _ => False) Z α s.heap Z' α' σ' h' → Q t { s with heap := h', toks := tk }) → wpAny (model prog w) A (allTrue op es env) Q E s := by
  intro es
  induction es with
  | nil => intro _ op me n _ h; cases h
  | cons e es ih =>
    intro rT op me n hnN h s Z α σ σ' x t Q I Fm he ht k
    cases h with
    | one h =>
      cases op with
      | And =>
        refine wpAny_allTrue_And_cons (rT _ (by simp) _ n hnN h s Z α σ σ' x t _ I Fm he ht fun h' tk Z' α' x1 => ?_)
        cases t with
        | true => rw [if_pos rfl]; exact wpAny_allTrue_And_nil (k h' tk Z' α' x1)
        | false => rw [if_neg (by decide)]; exact k h' tk Z' α' x1
      | Or =>
        refine wpAny_allTrue_Or_cons (rT _ (by simp) _ n hnN h s Z α σ σ' x t _ I Fm he ht fun h' tk Z' α' x1 => ?_)
        cases t with
        | true => rw [if_pos rfl]; exact k h' tk Z' α' x1
        | false => rw [if_neg (by decide)]; exact wpAny_allTrue_Or_nil (k h' tk Z' α' x1)
    | and h h2 =>
      cases n with
      | zero => simp [evE] at he
      | succ n =>
        simp only [evE] at he
        obtain ⟨p, hp, he⟩ := Option.bind_eq_some_iff.mp he
        obtain ⟨t1, ht1, he⟩ := Option.bind_eq_some_iff.mp he
        refine wpAny_allTrue_And_cons (rT _ (by simp) _ n (Nat.le_of_succ_le hnN) h s Z α σ p.2 p.1 t1 _ I Fm hp ht1 fun h' tk Z' α' x1 => ?_)
        cases t1 with
        | true =>
          rw [if_pos rfl] at he ⊢
          exact ih (fun e he => rT e (List.mem_cons_of_mem _ he)) _ _ n (Nat.le_of_succ_le hnN) h2 _ Z' α' p.2 σ' x t Q x1.inv (Fm.ext x1) he ht fun h'' tk' Z'' α'' x2 => k h'' tk' Z'' α'' (x1.trans x2)
        | false =>
          rw [if_neg (by decide)] at he ⊢
          cases he
          cases ht
          exact k h' tk Z' α' x1
    | or h h2 =>
      cases n with
      | zero => simp [evE] at he
      | succ n =>
        simp only [evE] at he
        obtain ⟨p, hp, he⟩ := Option.bind_eq_some_iff.mp he
        obtain ⟨t1, ht1, he⟩ := Option.bind_eq_some_iff.mp he
        refine wpAny_allTrue_Or_cons (rT _ (by simp) _ n (Nat.le_of_succ_le hnN) h s Z α σ p.2 p.1 t1 _ I Fm hp ht1 fun h' tk Z' α' x1 => ?_)
        cases t1 with
        | false =>
          rw [if_neg (by decide)] at he ⊢
          exact ih (fun e he => rT e (List.mem_cons_of_mem _ he)) _ _ n (Nat.le_of_succ_le hnN) h2 _ Z' α' p.2 σ' x t Q x1.inv (Fm.ext x1) he ht fun h'' tk' Z'' α'' x2 => k h'' tk' Z'' α'' (x1.trans x2)
        | true =>
          rw [if_pos rfl] at he ⊢
          cases he
          cases ht
          exact k h' tk Z' α' x1

theorem sndT_upto (N : Nat) (hE : ∀ m, m ≤ N → SndE O T B prog w b (evE F G srt m)) (rm : Room A b) (hl : ρ.length = C.xs.length) : ∀ (k : Nat) (e : PySem.Expr), sizeOf e ≤ k → ∀ (me : ME) (n : Nat), n ≤ N → CT T C e me →
      ∀ (s : Shared) (Z : Zd) (α : List Addr) (σ σ' : Store) (x : W) (t : Bool) (Q : Bool → Shared → Prop), Inv O B Z α σ s.heap →
      Frm O Z α C env ρ s.heap → evE F G srt n σ ρ me = some (x, σ') → asTru x = some t →
      (∀ h' tk Z' α', Ext O B (fun _ => False) Z α s.heap Z' α' σ' h' → Q t { s with heap := h', toks := tk }) → wpAny (model prog w) A (isTrue e env (eval e env)) Q E s := by
  intro k
  induction k with
  | zero => intro e he; cases e <;> simp at he
  | succ k ih =>
    intro e hsz me n hn hC s Z α σ σ' x t Q I Fm he ht K
    cases hC with
    | cmp ho h1 h2 =>
      subst ho
      cases n with
      | zero => simp [evE] at he
      | succ n =>
        simp only [evE] at he
        obtain ⟨p, hp, he⟩ := Option.bind_eq_some_iff.mp he
        obtain ⟨q, hq, he⟩ := Option.bind_eq_some_iff.mp he
        obtain ⟨dx, hx, he⟩ := Option.bind_eq_some_iff.mp he
        obtain ⟨dy, hy, he⟩ := Option.bind_eq_some_iff.mp he
        obtain ⟨z, hz, he⟩ := Option.map_eq_some_iff.mp he
        cases he
        cases ht
        exact sndT_of (hE n (Nat.le_of_succ_le hn)) rm h1 h2 I Fm hl hp hq hx hy hz K
    | bool h =>
      rename_i op es pos
      refine wpAny_isTrue_BoolOp (sndTl N es (fun e' he' me' n' hn' hc' => ih e' ?_ me' n' hn' hc') op me n hn h s Z α σ σ' x t Q I Fm he ht K)
      have := List.sizeOf_lt_of_mem he'
      simp at hsz
      omega
    | call hcl h =>
      have hv : isTrue e env (eval e env) = (do let v ← eval e env; standAt e.pos; holding [v] (truthy v)) := by
        cases e <;> first | rfl | cases hcl
      refine wpAny_isTrue_value (hE n hn C e me h A s env Z α σ σ' ρ x _ _ rm I Fm hl he fun v h' tk Z' α' x1 r1 => ?_) hv
      rw [asTru_some ht] at r1
      cases r1 with
      | d r1 => cases r1 with | bool _ => exact wpAny_truthy_bool (K h' tk Z' α' x1)

theorem sndT_at (N : Nat) (hE : ∀ m, m ≤ N → SndE O T B prog w b (evE F G srt m)) : SndT O T B prog w b (evE F G srt N) :=
  fun C e me hC A s env Z α σ σ' ρ x t Q E rm I Fm hl he ht K => sndT_upto (A := A) (env := env) (ρ := ρ) (C := C) (E := E) N hE rm hl (sizeOf e) e (Nat.le_refl _) me N (Nat.le_refl _) hC s Z α σ σ' x t Q I Fm he ht K

theorem iter_fold {iter : PySem.Expr} {k : IK} {args : List ME} (h : CI T C iter k args) (env : Env) (x : Value) : foldedSetIterable iter env x = pure x := by
  cases h with
  | val h _ => exact h env x
  | range _ _ _ => rfl
  | enum _ _ _ _ => rfl

theorem sc_names {scope : Scope} {tg : List Str} (sc : scOk C scope tg) : ∀ x ∈ scope.names, x.2 = .local → scope.names.lookup x.1 = some .local := fun x hx h => by
  have := lookup_of_mem sc.2.1 (x := x.1) (k := x.2) hx
  rw [this, h]
theorem sc_closure {scope : Scope} {tg : List Str} {h : Heap} (sc : scOk C scope tg) (Fm : Frm O Z α C env ρ h) : closureFor scope env = pure (clOf env.cells scope.names []) :=
  closure_eq (fun x hx hf => Fm.cs x.1 (sc.2.2.1 x hx hf)) scope rfl

theorem evI_len {k : IK} {args : List ME} {l : List D} {st : Option (Nat × List D)} {σ1 : Store} (h : evI r σ ρ k args = some (l, st, σ1)) : l.length ≤ big := by
  have en : ∀ (l : List D) (i : Int), (dEnum i l).length = l.length := by
    intro l
    induction l with
    | nil => intro i; rfl
    | cons x l ih => intro i; simp [dEnum, ih]
  have sp : ∀ (n : Nat) (a c : Int), (steps a c n).length = n := by
    intro n
    induction n with
    | zero => intro a c; rfl
    | succ n ih => intro a c; simp [steps, ih]
  unfold evI at h
  obtain ⟨p, hp, h⟩ := Option.bind_eq_some_iff.mp h
  split at h
  · split at h
    · cases h; assumption
    · cases h
  · obtain ⟨l0, _, h⟩ := Option.bind_eq_some_iff.mp h
    split at h
    · cases h; assumption
    · cases h
  · split at h
    · cases h; rw [en]; assumption
    · cases h
  · obtain ⟨ds, hd, h⟩ := Option.bind_eq_some_iff.mp h
    obtain ⟨l0, hr, h⟩ := Option.map_eq_some_iff.mp h
    cases h
    unfold dRange at hr
    split at hr
    · split at hr
      · rename_i hc; cases hr; rw [sp]; simp only [Bool.and_eq_true, decide_eq_true_eq] at hc; exact hc.2
      · cases hr
    · split at hr
      · rename_i hc; cases hr; rw [sp]; simp only [Bool.and_eq_true, decide_eq_true_eq] at hc; exact hc.2
      · cases hr
    · split at hr
      · rename_i a c d hc
        cases hr
        rw [sp]
        simp only [Bool.and_eq_true, decide_eq_true_eq] at hc
        have : (c - a + 1).fdiv 2 = (c - a + 1) / 2 := Int.fdiv_eq_ediv_of_nonneg _ (by decide)
        rw [this]
        have := hc.2
        omega
      · cases hr
    · cases hr
  · cases h

/-- a comprehension's value -/
theorem snd_comp (Gd : Gl O T B prog w b F G srt mg mb) (hE : SndE O T B prog w b r) (hT : SndT O T B prog w b r) (rm : Room A b) {elt target iter : PySem.Expr} {ifs : List PySem.Expr} {scope : Scope} {pos : Pos} {e' : ME} {two : Bool} {k : IK} {args : List ME} {cond : Option ME} {tg : List Str}
    (sc : scOk C scope tg) (ht : Tgt target tg) (htwo : two = decide (tg.length = 2)) (hk : k = .enum → two = true) (hi : CI T C iter k args) (he : CE T (cxIn C scope.names tg) elt e') (hcc : CC T (cxIn C scope.names tg) ifs cond)
    (I : Inv O B Z α σ s.heap) (Fm : Frm O Z α C env ρ s.heap) (hl : ρ.length = C.xs.length) {l ds : List D} {st : Option (Nat × List D)} {σ1 : Store} (hev : evI r σ ρ k args = some (l, st, σ1)) (hec : evC r ρ e' two st cond σ1 l = some (ds, σ'))
    {use : Option (Value → Sem Unit)} {p : Pos} {Q : Value → Shared → Prop} (K : CompEnd O B Z α s ds σ' (fun acc L s' => compPost (model prog w) A E use Q (.ref acc) L (.ok .next) s')) :
    wpAny (model prog w) A (comprehension (.ListComp elt [⟨target, iter, ifs, 0⟩] scope pos) scope env p (newList []) false (eval iter env) use) Q E s := by
  refine wpAny_comprehension_free (gs := []) rfl (iter_fold hi env) (sc_closure sc Fm) sc.1 (sc_names sc) ?_
  refine sndI Gd hE rm hi I Fm hl hev fun I0 fp h1 tk1 Z1 α1 x1 ffp off it hst h2 => ?_
  exact comp_core hE hT rm sc ht htwo he hcc Fm hl hec (Nat.le_trans (evI_len hev) big_line) x1 ffp off it hst (fun q => hk (h2 q)) K

/-- the new list of a comprehension, told -/
theorem comp_told {ds : List D} {Q : Value → Shared → Prop} (K : K1 O B Z α s Q (.d (.lst ds)) σ') : CompEnd O B Z α s ds σ' (fun acc L s' => compPost (model prog w) A E none Q (.ref acc) L (.ok .next) s') := by
  intro acc L h1 tk Z1 α1 ys n x sa sL ne off hm g r
  obtain ⟨m, hm⟩ := hm
  refine ⟨m, hm, fun h' hs' => ?_⟩
  have offL : Off Z1 α1 h1 [L] := fun b hb => by rw [List.mem_singleton.mp hb]; exact off L (by simp)
  have x2 : Ext O B (· ∈ [L]) Z1 α1 h1 Z1 α1 σ' h' := ext_own (s := { s with heap := h1, toks := tk }) x.inv offL fun b o nb e => (hs'.2 b (fun qq => nb (by simp [qq]))).trans e
  have x3 := x.trans (x2.weaken (Y := fun a => s.heap.get? a = none) fun a o _ q => by rw [List.mem_singleton.mp q]; exact sL)
  have g' : h'.get? acc = some (listOf ys.toArray n) := (hs'.2 acc ne).trans g
  have x4 := (x3.tell g' (off acc (by simp)).2.1 sa).weaken (Y := fun _ => False) fun a o e q => not_some_none q e
  exact K _ h' tk _ α1 x4 (.d (.lst (.inr ⟨rfl, rfl⟩) (r.mono fun _ _ z => .inl z)))
end
end Mine


namespace Mine
section
variable {O : Nat → D} {T : Tb} {B : Heap} {prog : Program} {w : World} {b : Nat}
variable {F : Nat → FnT} {G : Nat → Option D} {srt : List D → Option (List D)} {mg mb : Str → Option Value} {r : EvT}

theorem b2 {α β : Type} {x : Option α} {f : α → Option β} {y : β} (h : x.bind f = some y) : ∃ a, x = some a ∧ f a = some y := Option.bind_eq_some_iff.mp h
theorem m2 {α β : Type} {x : Option α} {f : α → β} {y : β} (h : x.map f = some y) : ∃ a, x = some a ∧ f a = y := Option.map_eq_some_iff.mp h

theorem ces_star {C : Cx} {env : Env} {e : PySem.Expr} {es : List PySem.Expr} {ms : List ME} (h : CEs T C (e :: es) ms) : starEach (e :: es) env = (false, eval e env) :: starEach es env := by
  cases h with
  | cons hs _ _ => exact star_cons hs


theorem evL_one {σ : Store} {ρ : Rho} {a : ME} {p : W × Store} (h : r σ ρ a = some p) : evL r ρ σ [a] = some ([p.1], p.2) := by
  simp only [evL, h]; rfl

/-! what a word's value tells, handed on -/
section
variable {n : Nat} {σ σ' : Store} {ρ : Rho} {x : W} {R : W → Store → Prop} {P : Prop}
theorem fin1 {a : W} {b : Store} (h : some (a, b) = some (x, σ')) (K : R x σ') : R a b := by
  cases h; exact K
theorem fin2 {a : W} {b : Store} (h : (a, b) = (x, σ')) (K : R x σ') : R a b := by
  cases h; exact K
theorem wI {β : Type} {p : W} {f : Int → Option β} {y : β} (h : (match p with
    | .d (.int i) => f i
    | _ => none) = some y) (k : ∀ i, p = .d (.int i) → f i = some y → P) : P := by
  cases p with
  | m _ => cases h
  | d d =>
    cases d with
    | int i => exact k i rfl h
    | bool _ => cases h
    | tup _ => cases h
    | lst _ => cases h
    | opq _ => cases h
theorem iv_var {i : Nat} (he : evE F G srt (n + 1) σ ρ (.var i) = some (x, σ')) (K : R x σ') (k : ∀ w, ρ[i]? = some (some w) → R w σ → P) : P := by
  replace he : (match ρ[i]? with
    | some (some w) => some (w, σ)
    | _ => none) = some (x, σ') := he
  match e : ρ[i]?, he with
  | some (some w), he => exact k w e (fin1 he K)
theorem iv_glob {i : Nat} (he : evE F G srt (n + 1) σ ρ (.glob i) = some (x, σ')) (K : R x σ') (k : ∀ d, G i = some d → R (.d d) σ → P) : P :=
  mE (show Option.map _ _ = _ from he) fun d hd he => k d hd (fin2 he K)
theorem iv_int {i : Int} (he : evE F G srt (n + 1) σ ρ (.int i) = some (x, σ')) (K : R x σ') : R (.d (.int i)) σ := fin1 he K
theorem iv_bool {i : Bool} (he : evE F G srt (n + 1) σ ρ (.bool i) = some (x, σ')) (K : R x σ') : R (.d (.bool i)) σ := fin1 he K
theorem iv_neg {a : ME} (he : evE F G srt (n + 1) σ ρ (.neg a) = some (x, σ')) (K : R x σ') (k : ∀ i p, evE F G srt n σ ρ a = some p → p.1 = .d (.int i) → R (.d (.int (-i))) p.2 → P) : P :=
  bE (show Option.bind _ _ = _ from he) fun p hp he => wI he fun i hi he => k i p hp hi (fin1 he K)
theorem iv_bin {o : Bop} {a c : ME} (he : evE F G srt (n + 1) σ ρ (.bin o a c) = some (x, σ')) (K : R x σ')
    (k : ∀ p q dx dy z, evE F G srt n σ ρ a = some p → evE F G srt n p.2 ρ c = some q → wD p.1 = some dx → wD q.1 = some dy → dBin o dx dy = some z → R (.d z) q.2 → P) : P :=
  bE (show Option.bind _ _ = _ from he) fun p hp he => bE he fun q hq he => bE he fun dx hx he => bE he fun dy hy he => mE he fun z hz he => k p q dx dy z hp hq hx hy hz (fin2 he K)
theorem iv_cmp {o : Cop} {a c : ME} (he : evE F G srt (n + 1) σ ρ (.cmp o a c) = some (x, σ')) (K : R x σ')
    (k : ∀ p q dx dy z, evE F G srt n σ ρ a = some p → evE F G srt n p.2 ρ c = some q → wD p.1 = some dx → wD q.1 = some dy → dCmp o dx dy = some z → R (.d (.bool z)) q.2 → P) : P :=
  bE (show Option.bind _ _ = _ from he) fun p hp he => bE he fun q hq he => bE he fun dx hx he => bE he fun dy hy he => mE he fun z hz he => k p q dx dy z hp hq hx hy hz (fin2 he K)
theorem iv_and {a c : ME} (he : evE F G srt (n + 1) σ ρ (.and a c) = some (x, σ')) (K : R x σ')
    (k : ∀ p t, evE F G srt n σ ρ a = some p → asTru p.1 = some t → (t = true → evE F G srt n p.2 ρ c = some (x, σ')) → (t = false → R (.d (.bool false)) p.2) → P) : P :=
  bE (show Option.bind _ _ = _ from he) fun p hp he => bE he fun t ht he => k p t hp ht (fun e => (if_pos e).symm.trans he) (fun e => fin1 ((if_neg (by rw [e]; decide)).symm.trans he) K)
theorem iv_ite {a c d : ME} (he : evE F G srt (n + 1) σ ρ (.ite a c d) = some (x, σ'))
    (k : ∀ p t, evE F G srt n σ ρ a = some p → asTru p.1 = some t → evE F G srt n p.2 ρ (if t = true then c else d) = some (x, σ') → P) : P :=
  bE (show Option.bind _ _ = _ from he) fun p hp he => bE he fun t ht he => k p t hp ht (by cases t <;> exact he)
theorem idxE {p q : W} {σ2 : Store} (h : (match p, q with
      | .d (.tup l), .d (.int k) => (dIdx l k).map fun d => ((.d d : W), σ2)
      | .d (.lst l), .d (.int k) => (dIdx l k).map fun d => (.d d, σ2)
      | .m j, .d (.int k) => (σ2[j]?).bind fun l => (dIdx l k).map fun d => (.d d, σ2)
      | _, _ => none) = some (x, σ')) (K : R x σ') (k1 : ∀ l i d, p = .d (.tup l) → q = .d (.int i) → dIdx l i = some d → R (.d d) σ2 → P)
    (k2 : ∀ l i d, wList σ2 p = some l → q = .d (.int i) → dIdx l i = some d → R (.d d) σ2 → P) : P := by
  cases p with
  | m j =>
    cases q with
    | m _ => cases h
    | d q =>
      cases q with
      | int i => exact bE h fun l hl he => mE he fun d hd he => k2 l i d hl rfl hd (fin2 he K)
      | bool _ => cases h
      | tup _ => cases h
      | lst _ => cases h
      | opq _ => cases h
  | d d =>
    cases d with
    | tup l =>
      cases q with
      | m _ => cases h
      | d q =>
        cases q with
        | int i => exact mE h fun d hd he => k1 l i d rfl rfl hd (fin2 he K)
        | bool _ => cases h
        | tup _ => cases h
        | lst _ => cases h
        | opq _ => cases h
    | lst l =>
      cases q with
      | m _ => cases h
      | d q =>
        cases q with
        | int i => exact mE h fun d hd he => k2 l i d rfl rfl hd (fin2 he K)
        | bool _ => cases h
        | tup _ => cases h
        | lst _ => cases h
        | opq _ => cases h
    | int _ => cases h
    | bool _ => cases h
    | opq _ => cases h
theorem iv_idx {a c : ME} (he : evE F G srt (n + 1) σ ρ (.idx a c) = some (x, σ')) (K : R x σ')
    (k1 : ∀ l i d p q, evE F G srt n σ ρ a = some p → evE F G srt n p.2 ρ c = some q → p.1 = .d (.tup l) → q.1 = .d (.int i) → dIdx l i = some d → R (.d d) q.2 → P)
    (k2 : ∀ l i d p q, evE F G srt n σ ρ a = some p → evE F G srt n p.2 ρ c = some q → wList q.2 p.1 = some l → q.1 = .d (.int i) → dIdx l i = some d → R (.d d) q.2 → P) : P :=
  bE (show Option.bind _ _ = _ from he) fun p hp he => bE he fun q hq he => idxE he K (fun l i d e1 e2 => k1 l i d p q hp hq e1 e2) (fun l i d e1 e2 => k2 l i d p q hp hq e1 e2)
theorem iv_upto {a c : ME} (he : evE F G srt (n + 1) σ ρ (.upto a c) = some (x, σ')) (K : R x σ')
    (k : ∀ p i l q, evE F G srt n σ ρ a = some p → evE F G srt n p.2 ρ c = some q → q.1 = .d (.int i) → wList q.2 p.1 = some l → (0 ≤ i && small i && decide (l.length ≤ big)) = true → R (.d (.lst (l.take i.toNat))) q.2 → P) : P :=
  bE (show Option.bind _ _ = _ from he) fun p hp he => bE he fun q hq he => wI he fun i hi he => bE he fun l hl he => iE he fun hc he => k p i l q hp hq hi hl hc (fin1 he K)
theorem iv_from {a c : ME} (he : evE F G srt (n + 1) σ ρ (.from' a c) = some (x, σ')) (K : R x σ')
    (k : ∀ p i l q, evE F G srt n σ ρ a = some p → evE F G srt n p.2 ρ c = some q → q.1 = .d (.int i) → wList q.2 p.1 = some l → (0 ≤ i && small i && decide (l.length ≤ big)) = true → R (.d (.lst (l.drop i.toNat))) q.2 → P) : P :=
  bE (show Option.bind _ _ = _ from he) fun p hp he => bE he fun q hq he => wI he fun i hi he => bE he fun l hl he => iE he fun hc he => k p i l q hp hq hi hl hc (fin1 he K)
theorem iv_rev {a : ME} (he : evE F G srt (n + 1) σ ρ (.rev a) = some (x, σ')) (K : R x σ')
    (k : ∀ p l, evE F G srt n σ ρ a = some p → wList p.2 p.1 = some l → l.length ≤ big → R (.d (.lst l.reverse)) p.2 → P) : P :=
  bE (show Option.bind _ _ = _ from he) fun p hp he => bE he fun l hl he => iE he fun hc he => k p l hp hl hc (fin1 he K)
theorem iv_tup {es : List ME} (he : evE F G srt (n + 1) σ ρ (.tup es) = some (x, σ')) (K : R x σ')
    (k : ∀ p ds, evL (evE F G srt n) ρ σ es = some p → wDs p.1 = some ds → ds.length ≤ big → R (.d (.tup ds)) p.2 → P) : P :=
  bE (show Option.bind _ _ = _ from he) fun p hp he => bE he fun ds hd he => iE he fun hc he => k p ds hp hd hc (fin1 he K)
theorem iv_lst {es : List ME} (he : evE F G srt (n + 1) σ ρ (.lst es) = some (x, σ')) (K : R x σ')
    (k : ∀ p ds, evL (evE F G srt n) ρ σ es = some p → wDs p.1 = some ds → ds.length ≤ big → R (.d (.lst ds)) p.2 → P) : P :=
  bE (show Option.bind _ _ = _ from he) fun p hp he => bE he fun ds hd he => iE he fun hc he => k p ds hp hd hc (fin1 he K)
theorem iv_mlst {es : List ME} (he : evE F G srt (n + 1) σ ρ (.mlst es) = some (x, σ')) (K : R x σ')
    (k : ∀ p ds, evL (evE F G srt n) ρ σ es = some p → wDs p.1 = some ds → ds.length ≤ big → R (.m p.2.length) (p.2 ++ [ds]) → P) : P :=
  bE (show Option.bind _ _ = _ from he) fun p hp he => bE he fun ds hd he => iE he fun hc he => k p ds hp hd hc (fin1 he K)
theorem repE {dx dy : D} {σ2 : Store} (h : (match dx, dy with
      | .lst l, .int k => (dBin .mul (.lst l) (.int k)).bind fun z => (match z with
        | .lst l' => some (W.m σ2.length, σ2 ++ [l'])
        | _ => none)
      | _, _ => none) = some (x, σ')) (K : R x σ') (k : ∀ l i l', dx = .lst l → dy = .int i → dBin .mul (.lst l) (.int i) = some (.lst l') → R (.m σ2.length) (σ2 ++ [l']) → P) : P := by
  cases dx with
  | lst l =>
    cases dy with
    | int i =>
      refine bE h fun z hz he => ?_
      cases z with
      | lst l' => exact k l i l' rfl rfl hz (fin1 he K)
      | int _ => cases he
      | bool _ => cases he
      | tup _ => cases he
      | opq _ => cases he
    | bool _ => cases h
    | tup _ => cases h
    | lst _ => cases h
    | opq _ => cases h
  | int _ => cases h
  | bool _ => cases h
  | tup _ => cases h
  | opq _ => cases h
theorem iv_mrep {a c : ME} (he : evE F G srt (n + 1) σ ρ (.mrep a c) = some (x, σ')) (K : R x σ')
    (k : ∀ p q dx dy l i l', evE F G srt n σ ρ a = some p → evE F G srt n p.2 ρ c = some q → wD p.1 = some dx → wD q.1 = some dy → dx = .lst l → dy = .int i → dBin .mul (.lst l) (.int i) = some (.lst l') → R (.m q.2.length) (q.2 ++ [l']) → P) : P :=
  bE (show Option.bind _ _ = _ from he) fun p hp he => bE he fun q hq he => bE he fun dx hx he => bE he fun dy hy he => repE he K fun l i l' => k p q dx dy l i l' hp hq hx hy
theorem iv_mcopy {a : ME} (he : evE F G srt (n + 1) σ ρ (.mcopy a) = some (x, σ')) (K : R x σ')
    (k : ∀ p l, evE F G srt n σ ρ a = some p → wList p.2 p.1 = some l → l.length ≤ big → R (.m p.2.length) (p.2 ++ [l]) → P) : P :=
  bE (show Option.bind _ _ = _ from he) fun p hp he => bE he fun l hl he => iE he fun hc he => k p l hp hl hc (fin1 he K)
theorem iv_call {f : Nat} {es : List ME} (he : evE F G srt (n + 1) σ ρ (.call f es) = some (x, σ')) (K : R x σ')
    (k : ∀ p q, evL (evE F G srt n) ρ σ es = some p → F f p.1 p.2 = some q → R (.d q.1) q.2 → P) : P :=
  bE (show Option.bind _ _ = _ from he) fun p hp he => mE he fun q hq he => k p q hp hq (fin2 he K)
theorem iv_blt {t : Blt} {es : List ME} (he : evE F G srt (n + 1) σ ρ (.blt t es) = some (x, σ')) (K : R x σ')
    (k : ∀ p d, evL (evE F G srt n) ρ σ es = some p → evBlt srt p.2 t p.1 = some d → R (.d d) p.2 → P) : P :=
  bE (show Option.bind _ _ = _ from he) fun p hp he => mE he fun d hd he => k p d hp hd (fin2 he K)
theorem iv_comp {e' : ME} {two : Bool} {kk : IK} {args : List ME} {cond : Option ME} (he : evE F G srt (n + 1) σ ρ (.comp e' two kk args cond) = some (x, σ')) (K : R x σ')
    (k : ∀ p q, evI (evE F G srt n) σ ρ kk args = some p → evC (evE F G srt n) ρ e' two p.2.1 cond p.2.2 p.1 = some q → R (.d (.lst q.1)) q.2 → P) : P :=
  bE (show Option.bind _ _ = _ from he) fun p hp he => mE he fun q hq he => k p q hp hq (fin2 he K)
end

theorem snd_step (Gd : Gl O T B prog w b F G srt mg mb) (n : Nat) (hE : SndE O T B prog w b (evE F G srt n)) (hT : SndT O T B prog w b (evE F G srt n)) : SndE O T B prog w b (evE F G srt (n + 1)) := by
  intro C e me hC A s env Z α σ σ' ρ x Q E rm I Fm hl he K
  revert he
  cases hC with
  | var h1 h2 h3 =>
    intro he
    exact iv_var he K fun w hw K => load_name Fm h1 hw h2 h3 fun v rv => K v s.heap s.toks Z α (Ext.refl I) rv
  | glob h1 h2 h3 =>
    intro he
    subst h1
    refine iv_glob he K fun d hd K => ?_
    have h2' := h2
    unfold nameOk at h2'
    rw [Bool.and_eq_true, Bool.not_eq_true'] at h2'
    exact (Gd.gv _ d hd).elim fun v hv => load_glob Gd I Fm h3 h2'.1 hv.1 (K.now I (hv.2.mono I.base) s.toks)
  | int =>
    intro he
    exact wpAny_Constant_int ((iv_int he K).now I (.int _ _) _)
  | bool =>
    intro he
    exact wpAny_Constant_bool ((iv_bool he K).now I (.bool _) s.toks)
  | neg h1 =>
    intro he
    refine iv_neg he K fun i p hp hi K => wpAny_UnaryOp (hE C _ _ h1 A s env Z α σ p.2 ρ _ _ _ rm I Fm hl hp fun v h' tk Z' α' x1 r1 => ?_)
    obtain ⟨t, rfl⟩ := r1.isInt hi
    exact neg_int ((K.after x1).now (s := { s with heap := h', toks := tk }) x1.inv (.int _ _) _)
  | bin ho h1 h2 =>
    intro he
    subst ho
    exact iv_bin he K fun p q dx dy z hp hq hx hy hz K => wpAny_BinOp (snd_two hE rm h1 h2 I Fm hl hp hq fun v u h' tk Z' α' x1 r1 r2 =>
      op_bin (s := { s with heap := h', toks := tk }) x1.inv (wD_of r1 hx) (wD_of r2 hy) hz (K.after x1))
  | cmp ho h1 h2 =>
    intro he
    subst ho
    exact iv_cmp he K fun p q dx dy z hp hq hx hy hz K => wpAny_Compare1 (snd_two hE rm h1 h2 I Fm hl hp hq fun v u h' tk Z' α' x1 r1 r2 =>
      op_cmp (s := { s with heap := h', toks := tk }) x1.inv (rm.le (Nat.zero_le _)) (wD_of r1 hx) (wD_of r2 hy) hz ((K.after x1).now (s := { s with heap := h', toks := tk }) x1.inv (.bool _) tk)) (no_marks _ _)
  | and h1 h2 =>
    intro he
    refine iv_and he K fun p t hp ht k1 k2 => ?_
    refine wpAny_And2 (hE C _ _ h1 A s env Z α σ p.2 ρ p.1 _ _ rm I Fm hl hp fun v h' tk Z' α' x1 r1 => ?_)
    rw [asTru_of r1 ht]
    refine wpAny_truthy_bool ?_
    cases t with
    | true => exact hE C _ _ h2 A _ env Z' α' p.2 σ' ρ x _ _ rm x1.inv (Fm.ext x1) hl (k1 rfl) (K.after x1)
    | false => exact (K1.after (k2 rfl) x1).now (s := { s with heap := h', toks := tk }) x1.inv (.bool _) tk
  | ite h0 h1 h2 =>
    intro he
    refine iv_ite he fun p t hp ht he => ?_
    refine wpAny_IfExp (hT C _ _ h0 A s env Z α σ p.2 ρ p.1 t _ _ rm I Fm hl hp ht fun h' tk Z' α' x1 => ?_)
    cases t with
    | true => exact hE C _ _ h1 A _ env Z' α' p.2 σ' ρ x _ _ rm x1.inv (Fm.ext x1) hl he (K.after x1)
    | false => exact hE C _ _ h2 A _ env Z' α' p.2 σ' ρ x _ _ rm x1.inv (Fm.ext x1) hl he (K.after x1)
  | idx hs h1 h2 =>
    intro he
    exact iv_idx he K
      (fun l i d p q hp hq e1 e2 hd K => Subscript_ (snd_two hE rm h1 h2 I Fm hl hp hq fun v u h' tk Z' α' x1 r1 r2 =>
        op_idx_tup (s := { s with heap := h', toks := tk }) x1.inv (wD_of r1 (congrArg wD e1)) (wD_of r2 (congrArg wD e2)) hd (sub_plain hs) (K.after x1)))
      (fun l i d p q hp hq hl' e2 hd K => Subscript_ (snd_two hE rm h1 h2 I Fm hl hp hq fun v u h' tk Z' α' x1 r1 r2 =>
        op_idx_list (s := { s with heap := h', toks := tk }) x1.inv r1 hl' (wD_of r2 (congrArg wD e2)) hd (sub_plain hs) (K.after x1)))
  | upto h1 h2 =>
    intro he
    refine iv_upto he K fun p i l q hp hq hi hl' hc K => ?_
    refine Subscript_ (hE C _ _ h1 A s env Z α σ p.2 ρ p.1 _ _ rm I Fm hl hp fun v h1' tk1 Z1 α1 x1 r1 => ?_)
    refine wpAny_Slice ?_
    rw [evalPart_none]
    refine wpAny_pure ?_
    rw [evalPart_some]
    refine hE C _ _ h2 A _ env Z1 α1 p.2 q.2 ρ _ _ _ rm x1.inv (Fm.ext x1) hl hq fun u h2' tk2 Z2 α2 x2 r2 => ?_
    refine wpAny_pure ?_
    obtain ⟨t, rfl⟩ := r2.isInt hi
    exact op_slice (s := { s with heap := h2', toks := tk2 }) (ops := fun a c => [.ref c, .ref a]) x2.inv (x2.word r1) hl' .none (.int _ _) .none (fun h => nomatch h) (of_decide_eq_true (and_r hc)) (fun vs rr => pick_upto (of_decide_eq_true (and_l (and_l hc))) rr) (fun _ _ => rfl) (K.after (x1.trans x2))
  | from' h1 h2 =>
    intro he
    refine iv_from he K fun p i l q hp hq hi hl' hc K => ?_
    refine Subscript_ (hE C _ _ h1 A s env Z α σ p.2 ρ p.1 _ _ rm I Fm hl hp fun v h1' tk1 Z1 α1 x1 r1 => ?_)
    refine wpAny_Slice ?_
    rw [evalPart_some]
    refine hE C _ _ h2 A _ env Z1 α1 p.2 q.2 ρ _ _ _ rm x1.inv (Fm.ext x1) hl hq fun u h2' tk2 Z2 α2 x2 r2 => ?_
    rw [evalPart_none]
    refine wpAny_pure (wpAny_pure ?_)
    obtain ⟨t, rfl⟩ := r2.isInt hi
    exact op_slice (s := { s with heap := h2', toks := tk2 }) (ops := fun a c => [.ref c, .ref a]) x2.inv (x2.word r1) hl' (.int _ _) .none .none (fun h => nomatch h) (of_decide_eq_true (and_r hc)) (fun vs rr => pick_from (of_decide_eq_true (and_l (and_l hc))) rr) (fun _ _ => rfl) (K.after (x1.trans x2))
  | rev h1 =>
    intro he
    refine iv_rev he K fun p l hp hl' hc K => ?_
    refine Subscript_ (hE C _ _ h1 A s env Z α σ p.2 ρ p.1 _ _ rm I Fm hl hp fun v h1' tk1 Z1 α1 x1 r1 => ?_)
    refine wpAny_Slice ?_
    rw [evalPart_none]
    refine wpAny_pure (wpAny_pure ?_)
    rw [evalPart_some]
    exact wpAny_UnaryOp (wpAny_Constant_int (neg_int (op_slice (s := { s with heap := h1', toks := tk1 + 1 + 1 }) (ops := fun a c => [.ref a, .ref c]) x1.inv r1 hl' .none .none (.int _ _) (by decide) hc (fun vs rr => pick_rev rr) (fun _ _ => rfl) (K.after x1))))
  | tup h1 =>
    intro he
    refine iv_tup he K fun p ds hp hd hc K => ?_
    refine Tuple_ (sndL hE rm _ _ _ s Z α σ p.2 p.1 _ h1 I Fm hl hp fun vs h' tk Z' α' x1 r1 => ?_)
    have rd := r1.frozen hd
    exact wpAny_newTuple (s := { s with heap := h', toks := tk }) ((K.after x1).tuple (s := { s with heap := h', toks := tk }) x1.inv rd tk (push_keeps _ _) (get_top_none _) (Heap.get?_push_size _ rfl)) (Nat.le_trans (rd.length ▸ hc) big_line)
  | lst h1 =>
    intro he
    refine iv_lst he K fun p ds hp hd hc K => ?_
    refine List_ (sndL hE rm _ _ _ s Z α σ p.2 p.1 _ h1 I Fm hl hp fun vs h' tk Z' α' x1 r1 => ?_)
    have rd := r1.frozen hd
    exact wpAny_newList (s := { s with heap := h', toks := tk }) ((K.after x1).list (s := { s with heap := h', toks := tk }) x1.inv rd tk (push_keeps _ _) (get_top_none _) (Heap.get?_push_size _ rfl)) (Nat.le_trans (rd.length ▸ hc) big_line)
  | mlst h1 =>
    intro he
    refine iv_mlst he K fun p ds hp hd hc K => ?_
    refine List_ (sndL hE rm _ _ _ s Z α σ p.2 p.1 _ h1 I Fm hl hp fun vs h' tk Z' α' x1 r1 => ?_)
    have rd := r1.frozen hd
    exact wpAny_newList (s := { s with heap := h', toks := tk }) ((K.after x1).mlist (s := { s with heap := h', toks := tk }) x1.inv rd tk (push_keeps _ _) (get_top_none _) (Heap.get?_push_size _ rfl)) (Nat.le_trans (rd.length ▸ hc) big_line)
  | mrep h1 h2 =>
    intro he
    refine iv_mrep he K fun p q dx dy l i l' hp hq hx hy ex ey hz K => ?_
    refine wpAny_BinOp (snd_two hE rm h1 h2 I Fm hl hp hq fun v u h' tk Z' α' x1 r1 r2 => ?_)
    refine op_rep (s := { s with heap := h', toks := tk }) x1.inv (ex ▸ wD_of r1 hx) (ey ▸ wD_of r2 hy) hz fun vs r' ez => ?_
    cases ez
    exact (K.after x1).mlist (s := { s with heap := h', toks := tk }) x1.inv r' tk (push_keeps _ _) (get_top_none _) (Heap.get?_push_size _ rfl)
  | mcopy hx hk hs h1 =>
    intro he
    subst hx
    refine iv_mcopy he K fun p l hp hl' hc K => ?_
    have h2 : CEs T C [_] [_] := .cons hs h1 .nil
    refine Call_ (load_blt Gd I Fm hk (by decide +kernel) (Gd.bn .list).1 (Gd.bn .list).2 (call_blt (t := .list) h2 ?_))
    refine sndL hE rm _ [_] _ s Z α σ p.2 [p.1] _ h2 I Fm hl (evL_one hp) fun vs h' tk Z' α' x1 r1 => ?_
    obtain ⟨v, rfl, r2⟩ := r1.one rfl
    exact list_copy (s := { s with heap := h', toks := tk }) x1.inv r2 hl' hc fun h'' vs n hk' ho rr => (K.after x1).mlist (s := { s with heap := h', toks := tk }) x1.inv rr tk hk' (get_top_none _) ho
  | call hx hn hk h1 =>
    intro he
    subst hx
    refine iv_call he K fun p q hp hq K => ?_
    have hn' := hn
    unfold nameOk at hn'
    rw [Bool.and_eq_true, Bool.not_eq_true'] at hn'
    obtain ⟨a, o, fd, g1, g2, g3, g4⟩ := Gd.fv _ _ _ _ hq
    refine Call_ (load_glob Gd I Fm hk hn'.1 g1 ?_)
    refine callWith_def (o := o) (fd := fd) g3 ?_ (ces_star h1)
    refine sndL hE rm _ _ _ s Z α σ p.2 p.1 _ h1 I Fm hl hp fun vs h' tk Z' α' x1 r1 => ⟨x1.inv.led _ _ (x1.inv.base _ _ g2), ?_⟩
    exact wpAny_call (g4 A { s with heap := h', toks := tk } Z' α' p.2 q.2 vs p.1 q.1 _ rm x1.inv r1 hq fun v h'' tk' Z'' x2 r2 => K v h'' tk' Z'' α' (x1.trans x2) (.d r2))
  | blt hx hk h1 =>
    intro he
    subst hx
    refine iv_blt he K fun p d hp hd K => ?_
    refine Call_ (load_blt Gd I Fm hk (bNm_ok _) (Gd.bn _).1 (Gd.bn _).2 (call_blt h1 ?_))
    exact sndL hE rm _ _ _ s Z α σ p.2 p.1 _ h1 I Fm hl hp fun vs h' tk Z' α' x1 r1 => op_blt (s := { s with heap := h', toks := tk }) Gd.so x1.inv rm r1 hd (K.after x1)
  | comp sc ht htwo hk hi he' hcc =>
    intro he
    refine iv_comp he K fun p q hp hq K => ?_
    rw [eval_ListComp]
    exact snd_comp Gd hE hT rm sc ht htwo hk hi he' hcc I Fm hl hp hq (use := none) (comp_told K)
  | stop =>
    intro he
    cases he

theorem snd_all (Gd : Gl O T B prog w b F G srt mg mb) : ∀ n m, m < n → SndE O T B prog w b (evE F G srt m)
  | 0, _, h => absurd h (Nat.not_lt_zero _)
  | n + 1, m, h => by
    rcases Nat.lt_succ_iff_lt_or_eq.mp h with h | h
    · exact snd_all Gd n m h
    · subst h
      cases m with
      | zero =>
        intro C e me hC A s env Z α σ σ' ρ x Q E rm I Fm hl he K
        simp [evE] at he
      | succ m =>
        exact snd_step Gd m (snd_all Gd (m + 1) m (Nat.lt_succ_self _)) (sndT_at m fun k hk => snd_all Gd (m + 1) k (Nat.lt_succ_of_le hk))

theorem sndE (Gd : Gl O T B prog w b F G srt mg mb) (n : Nat) : SndE O T B prog w b (evE F G srt n) := snd_all Gd (n + 1) n (Nat.lt_succ_self _)
theorem sndT (Gd : Gl O T B prog w b F G srt mg mb) (n : Nat) : SndT O T B prog w b (evE F G srt n) := sndT_at n fun m h => snd_all Gd (n + 1) m (Nat.lt_succ_of_le h)
end
end Mine


namespace Mine

noncomputable def isComp : PySem.Expr → Bool
  | .ListComp .. | .SetComp .. | .DictComp .. => true
  | _ => false

/-- the names of a tuple's targets, in the order in which they are stored when swapped -/
noncomputable def swp (ks : List (Str × NameKind)) (ts vs : List PySem.Expr) : Option (List Str) :=
  if !(ts.length == 2 || ts.length == 3) || vs.length != ts.length then none
  else if vs.any fun | .Starred .. => true | _ => false then none
  else
    let line := (ts.head?.map (·.pos.line)).getD 0
    let names := ts.filterMap fun
      | .Name id pos => if ks.lookup id == some .local && pos.line == line then some id else none
      | _ => none
    if names.length != ts.length || names.eraseDups.length != names.length then none
    else if vs.all (foldedForSure 8) then none
    else some names

/-- the machine goes on with the swapping: not the one case that it leaves open -/
noncomputable def swOk (vs : List PySem.Expr) : Bool := vs.all (foldedForSure 8) || !vs.all (constantsAlone 8)

theorem fm_congr {α β : Type} {f g : α → Option β} : ∀ {l : List α}, (∀ x ∈ l, f x = g x) → l.filterMap f = l.filterMap g
  | [], _ => rfl
  | x :: l, h => by rw [List.filterMap_cons, List.filterMap_cons, h x (by simp), fm_congr fun y hy => h y (List.mem_cons_of_mem _ hy)]

theorem swapped_of {env : Env} {ks : List (Str × NameKind)} {ts vs : List PySem.Expr} {k k' : Nat} {p p' : Pos} (hk : env.scope.kind = .function)
    (hl : ∀ id pos, PySem.Expr.Name id pos ∈ ts → (env.kindOf id == some .local) = (ks.lookup id == some .local)) (ho : swOk vs = true) :
    swappedStores [.Tuple ts k p] (.Tuple vs k' p') env = pure (swp ks ts vs) := by
  have hb : (env.blockKind != .function) = false := by
    unfold Env.blockKind
    rw [hk]; rfl
  have h5 : ¬ vs.all (foldedForSure 8) = true → vs.all (constantsAlone 8) = false := fun h4 => by
    unfold swOk at ho
    cases h6 : vs.all (foldedForSure 8) with
    | true => exact absurd h6 h4
    | false => rw [h6] at ho; simpa using ho
  have hn : (ts.filterMap fun
      | .Name id pos => if ks.lookup id == some .local && pos.line == (ts.head?.map (·.pos.line)).getD 0 then some id else none
      | _ => none) = ts.filterMap fun e => match e with
      | .Name id pos => if env.kindOf id == some .local && pos.line == (ts.head?.map (·.pos.line)).getD 0 then some id else none
      | _ => none := fm_congr fun e he => by
    cases e <;> first | rfl | (dsimp only; rw [hl _ _ he])
  generalize hR : swp ks ts vs = R
  unfold swp at hR
  simp only [hn] at hR
  unfold swappedStores
  simp only [hb, Bool.or_false]
  split
  · rename_i h1
    rw [← hR]
    exact congrArg pure (if_pos h1).symm
  · rename_i h1
    have hR := (if_neg h1).symm.trans hR
    split
    · rename_i h2
      rw [← hR]
      exact congrArg pure (if_pos h2).symm
    · rename_i h2
      have hR := (if_neg h2).symm.trans hR
      split
      · rename_i h3
        rw [← hR]
        exact congrArg pure (if_pos h3).symm
      · rename_i h3
        have hR := (if_neg h3).symm.trans hR
        split
        · rename_i h4
          rw [← hR]
          exact congrArg pure (if_pos h4).symm
        · rename_i h4
          have hR := (if_neg h4).symm.trans hR
          rw [if_neg (by rw [h5 h4]; decide), ← hR]
          rfl

section
variable {O : Nat → D} {T : Tb} {B : Heap} {prog : Program} {w : World} {b : Nat}
variable {F : Nat → FnT} {G : Nat → Option D} {srt : List D → Option (List D)} {mg mb : Str → Option Value} {r : EvT}
variable {A : Around} {s : Shared} {env : Env} {Z : Zd} {α : List Addr} {σ σ' : Store} {ρ : Rho} {C : Cx} {E : Value → Shared → Prop}

theorem set_len {i : Nat} {x : Option W} : (ρ.set i x).length = ρ.length := List.length_set

theorem setAll_len : ∀ (is : List Nat) (ws : List W) (ρ ρ' : Rho), setAll ρ is ws = some ρ' → ρ'.length = ρ.length
  | [], [], _, _, h => by cases h; rfl
  | i :: is, x :: ws, ρ, ρ', h => by
    rw [setAll] at h
    rw [setAll_len is ws _ _ h, List.length_set]
  | [], _ :: _, _, _, h => by cases h
  | _ :: _, [], _, _, h => by cases h

/-- names are bound in turn -/
theorem snd_stores : ∀ (sts : List (Value → Sem Unit)) (is : List Nat) (vs : List Value) (ws : List W) (s : Shared) (ρ ρ' : Rho) (σ : Store) (Q : Unit → Shared → Prop), sts.length = is.length →
    (∀ (j : Nat) st, sts[j]? = some st → ∃ x i, is[j]? = some i ∧ C.xs[i]? = some (some x) ∧ i < ρ.length ∧ (C.ks.lookup x = some .local ∨ C.ks.lookup x = some .cell) ∧
      ∀ (v : Value) (Q : Unit → Shared → Prop) (s : Shared), wpAny (model prog w) A (storeName env x v) Q E s → wpAny (model prog w) A (st v) Q E s) →
    Inv O B Z α σ s.heap → Frm O Z α C env ρ s.heap → RWs O Z α vs ws → setAll ρ is ws = some ρ' →
    (∀ h' tk, Ext O B (FX C env) Z α s.heap Z α σ h' → Frm O Z α C env ρ' h' → Q () { s with heap := h', toks := tk }) → wpAny (model prog w) A (assignInOrder sts vs) Q E s
  | [], [], vs, ws, s, ρ, ρ', σ, Q, _, _, I, Fm, rw, hs, k => by
    cases ws with
    | nil =>
      cases rw
      simp only [setAll, Option.some.injEq] at hs
      subst hs
      exact wpAny_assignInOrder_none (k s.heap s.toks (Ext.refl I) Fm)
    | cons _ _ => simp [setAll] at hs
  | [], i :: is, _, _, _, _, _, _, _, h, _, _, _, _, _, _ => by simp at h
  | _ :: _, [], _, _, _, _, _, _, _, h, _, _, _, _, _, _ => by simp at h
  | st :: sts, i :: is, vs, ws, s, ρ, ρ', σ, Q, hl, hst, I, Fm, rw, hs, k => by
    cases rw with
    | nil => simp [setAll] at hs
    | cons r1 r2 =>
      simp only [setAll] at hs
      obtain ⟨x, i', e1, e2, e3, e4, e5⟩ := hst 0 st rfl
      cases e1
      refine wpAny_assignInOrder_more (e5 _ _ _ (store_name I Fm e2 e3 e4 r1 fun h' tk x1 F1 => ?_))
      refine snd_stores sts is _ _ { s with heap := h', toks := tk } _ ρ' σ Q (by simpa using hl) (fun j st' q => ?_) x1.inv F1 r2 hs fun h'' tk' x2 F2 => k h'' tk' (x1.trans x2) F2
      obtain ⟨x', i'', f1, f2, f3, f4⟩ := hst (j + 1) st' q
      exact ⟨x', i'', f1, f2, by rw [List.length_set]; exact f3, f4⟩

/-! the methods of a list that may change -/
theorem remI_spec : ∀ (a : Int) (ns ns' : List Int), remI a ns = some ns' → ∃ j, ∃ (hj : j < ns.length), ns[j] = a ∧ (∀ m (hm : m < ns.length), m < j → ns[m] ≠ a) ∧ ns' = ns.eraseIdx j
  | a, [], _, h => by cases h
  | a, b :: r, ns', h => by
    rw [remI] at h
    split at h
    · rename_i hb
      cases h
      exact ⟨0, by simp, hb, fun m hm h => absurd h (Nat.not_lt_zero _), rfl⟩
    · rename_i hb
      obtain ⟨t, ht, rfl⟩ := Option.map_eq_some_iff.mp h
      obtain ⟨j, hj, h1, h2, rfl⟩ := remI_spec a r t ht
      refine ⟨j + 1, by simpa using hj, by simpa using h1, fun m hm h => ?_, rfl⟩
      cases m with
      | zero => exact hb
      | succ m => simpa using h2 m (by simpa using hm) (by omega)

theorem ints_at {vs : List Value} {ns : List Int} (h : IntsAre vs ns) : ∀ (j : Nat) (h1 : j < vs.length) (h2 : j < ns.length), ∃ t, vs[j] = .int ns[j] t := by
  induction h with
  | nil => intro j h1; exact absurd h1 (Nat.not_lt_zero _)
  | cons n t _ ih =>
    intro j h1 h2
    cases j with
    | zero => exact ⟨t, rfl⟩
    | succ j => exact ih j (by simpa using h1) (by simpa using h2)
theorem ints_erase {vs : List Value} {ns : List Int} (h : IntsAre vs ns) : ∀ j, IntsAre (vs.eraseIdx j) (ns.eraseIdx j) := by
  induction h with
  | nil => intro j; exact .nil
  | cons n t r ih =>
    intro j
    cases j with
    | zero => exact r
    | succ j => exact .cons n t (ih j)

noncomputable def intEq (a : Int) : Value → Bool
  | .int b _ => b == a
  | _ => false

theorem call_remove {l : Addr} {vs : List Value} {ns ns' : List Int} {n : Nat} {a : Int} {t : Tok} {Q : Value → Shared → Prop} (hl : s.heap.get? l = some (listOf vs.toArray n)) (hi : IntsAre vs ns) (hr : remI a ns = some ns') (hz : vs.length ≤ sizeLine)
    (k : ∀ h' vs' n', h'.get? l = some (listOf (List.toArray vs') n') → IntsAre vs' ns' → Heap.SameBut l s.heap h' → Q .none { s with heap := h' }) :
    wpAny (model prog w) A (call (.builtin "list.remove") [.ref l, .int a t]) Q E s := by
  obtain ⟨j, hj, h1, h2, rfl⟩ := remI_spec a ns ns' hr
  have hlen := hi.length
  have at_ : ∀ m (hm : m < vs.toArray.size) (hm' : m < ns.length), intEq a vs.toArray[m] = (ns[m] == a) := fun m hm hm' => by
    obtain ⟨u, e⟩ := ints_at hi m (by simpa using hm) hm'
    have : vs.toArray[m] = .int ns[m] u := by simpa using e
    rw [this]; rfl
  refine call_meets PySem.F.slot_list_remove ⟨_, hl, rfl⟩ PySem.F.entry_list_remove (PySem.F.args_list_remove_2 _ _)
    (MeetsSeq.list_remove l vs.toArray n (.int a t) (intEq a) (fun y hy => ?_) j (by rw [List.size_toArray, hlen]; exact hj) ?_ (fun m hm hmj => ?_) (by rw [List.size_toArray]; exact hz)) ⟨hl, ?_⟩
  · have hy' : y ∈ vs := by simpa using hy
    obtain ⟨m, hm, rfl⟩ := List.mem_iff_getElem.mp hy'
    obtain ⟨u, e⟩ := ints_at hi m hm (by rw [← hlen]; exact hm)
    rw [e]
    exact MeetsSeq.EqGives.int _ a u t
  · rw [at_ j _ hj, h1]; simp
  · have hm' : m < ns.length := by rw [List.size_toArray, hlen] at hm; exact hm
    rw [at_ m hm hm']
    simpa using h2 m hm' hmj
  · have ho := Heap.get?_update_self (Obj.mapSeq fun xs => xs.eraseIdxIfInBounds j) hl rfl
    refine k _ (vs.eraseIdx j) (n + 1) (ho.trans ?_) (ints_erase hi j) (Heap.SameBut.update ..)
    have hjv : j < vs.length := by rw [hlen]; exact hj
    have e1 : vs.toArray.eraseIdxIfInBounds j = (vs.eraseIdx j).toArray := by
      simp [Array.eraseIdxIfInBounds, hjv]
    unfold Obj.mapSeq
    simp only [e1]
    have : ((vs.eraseIdx j).toArray.size == vs.toArray.size) = false := by
      rw [List.size_toArray, List.size_toArray, List.length_eraseIdx_of_lt hjv]
      exact beq_false_of_ne (by omega)
    rw [this]
    rfl
end
end Mine


namespace Mine

inductive Nms : List PySem.Expr → List Str → Prop
  | nil : Nms [] []
  | cons {x : Str} {p : Pos} {ts : List PySem.Expr} {xs : List Str} : Nms ts xs → Nms (.Name x p :: ts) (x :: xs)

noncomputable def slotOk (C : Cx) (x : Str) (i : Nat) : Bool := (C.xs[i]? == some (some x)) && (C.ks.lookup x == some .local || C.ks.lookup x == some .cell)
noncomputable def slotsOk (C : Cx) : List Str → List Nat → Bool
  | [], [] => true
  | x :: xs, i :: is => slotOk C x i && slotsOk C xs is
  | _, _ => false

theorem slotOk_of {C : Cx} {x : Str} {i : Nat} (h : slotOk C x i = true) : C.xs[i]? = some (some x) ∧ (C.ks.lookup x = some .local ∨ C.ks.lookup x = some .cell) := by
  unfold slotOk at h
  simpa [Bool.and_eq_true, Bool.or_eq_true] using h
theorem slotsOk_of {C : Cx} : ∀ {xs : List Str} {is : List Nat}, slotsOk C xs is = true → is.length = xs.length ∧ ∀ (j : Nat) x, xs[j]? = some x → ∃ i, is[j]? = some i ∧ C.xs[i]? = some (some x) ∧ (C.ks.lookup x = some .local ∨ C.ks.lookup x = some .cell)
  | [], [], _ => ⟨rfl, fun j x h => by cases h⟩
  | x :: xs, i :: is, h => by
    rw [slotsOk, Bool.and_eq_true] at h
    obtain ⟨h1, h2⟩ := slotsOk_of h.2
    have h3 := slotOk_of h.1
    refine ⟨by simp [h1], fun j y q => ?_⟩
    cases j with
    | zero => cases q; exact ⟨i, rfl, h3⟩
    | succ j => exact h2 j y q
  | [], _ :: _, h => by cases h
  | _ :: _, [], h => by cases h

noncomputable def methEq (name : Str) (x : Str) (p ap cp : Pos) (e : PySem.Expr) : Prop := ∀ env, ∃ pl, eval (.Call (.Attribute (.Name x p) name ap) [e] [] cp) env = (do
      let ov ← eval (.Name x p) env
      standAt ap.atName
      let (f, first) ← holding [ov] (getMethod ov name pl)
      callWith cp f first (backTo cp (starEach [e] env)) [])

mutual
inductive CS (T : Tb) : Cx → PySem.Stmt → MS → Prop
  | set {C : Cx} {i : Nat} {x : Str} {p pos : Pos} {e : PySem.Expr} {m : ME} : slotOk C x i = true → isComp e = false → CE T C e m → CS T C (.Assign [.Name x p] e pos) (.set i m)
  | setc {C : Cx} {i : Nat} {x : Str} {p pos : Pos} {elt target iter : PySem.Expr} {ifs : List PySem.Expr} {scope : Scope} {cp : Pos} {m : ME} : slotOk C x i = true → C.ks.lookup x = some .local →
      (∀ env : Env, env.scope.kind = .function → env.kindOf x = some .local → swapsWith (.ListComp elt [⟨target, iter, ifs, 0⟩] scope cp) (some (.Name x p)) pos.line env = pure true) → CE T C (.ListComp elt [⟨target, iter, ifs, 0⟩] scope cp) m →
      CS T C (.Assign [.Name x p] (.ListComp elt [⟨target, iter, ifs, 0⟩] scope cp) pos) (.set i m)
  | sets {C : Cx} {sw : Bool} {is : List Nat} {xs : List Str} {ts vs : List PySem.Expr} {ms : List ME} {k k' : Nat} {p p' pos : Pos} : Nms ts xs → slotsOk C xs is = true → swOk vs = true → swp C.ks ts vs = (if sw then some xs else none) → CEs T C vs ms →
      CS T C (.Assign [.Tuple ts k p] (.Tuple vs k' p') pos) (.sets sw is ms)
  | setItem {C : Cx} {i : Nat} {x : Str} {p sp pos : Pos} {ke ve : PySem.Expr} {km vm : ME} : slotOk C x i = true → nameOk x = true → isComp ve = false → CE T C ve vm → CE T C ke km → CS T C (.Assign [.Subscript (.Name x p) ke sp] ve pos) (.setItem i km vm)
  | app {C : Cx} {i : Nat} {x : Str} {p ap cp pos : Pos} {e : PySem.Expr} {m : ME} : slotOk C x i = true → nameOk x = true → methEq "append" x p ap cp e → isStar e = false → CE T C e m → CS T C (.Expr (.Call (.Attribute (.Name x p) "append" ap) [e] [] cp) pos) (.app i m)
  | rem {C : Cx} {i : Nat} {x : Str} {p ap cp pos : Pos} {e : PySem.Expr} {m : ME} : slotOk C x i = true → nameOk x = true → methEq "remove" x p ap cp e → isStar e = false → CE T C e m → CS T C (.Expr (.Call (.Attribute (.Name x p) "remove" ap) [e] [] cp) pos) (.rem i m)
  | cond {C : Cx} {c : PySem.Expr} {a d : List PySem.Stmt} {cm : ME} {am dm : List MS} {pos : Pos} : CT T C c cm → CSs T C a am → CSs T C d dm → CS T C (.If c a d pos) (.cond cm am dm)
  | loop {C : Cx} {c : PySem.Expr} {a : List PySem.Stmt} {cm : ME} {am : List MS} {pos : Pos} : CT T C c cm → CSs T C a am → CS T C (.While c a [] pos) (.loop cm am)
  | each {C : Cx} {target iter : PySem.Expr} {tg : List Str} {is : List Nat} {k : IK} {args : List ME} {a : List PySem.Stmt} {am : List MS} {pos : Pos} : Tgt target tg → slotsOk C tg is = true → (k = .enum → tg.length = 2) → CI T C iter k args → CSs T C a am →
      CS T C (.For target iter a [] pos) (.each is k args am)
  | ret {C : Cx} {e : PySem.Expr} {m : ME} {pos : Pos} : CE T C e m → CS T C (.Return (some e) pos) (.ret m)
  | stop {C : Cx} {st : PySem.Stmt} : CS T C st .stop
inductive CSs (T : Tb) : Cx → List PySem.Stmt → List MS → Prop
  | nil {C : Cx} : CSs T C [] []
  | cons {C : Cx} {st : PySem.Stmt} {sts : List PySem.Stmt} {m : MS} {ms : List MS} : CS T C st m → CSs T C sts ms → CSs T C (st :: sts) (m :: ms)
end

noncomputable def FlOk (O : Nat → D) (Z : Zd) (α : List Addr) : Flow → Fl → Prop
  | .next, .next => True
  | .ret v, .ret w => RW O Z α v w
  | _, _ => False

noncomputable def KS (O : Nat → D) (B : Heap) (C : Cx) (env : Env) (Z : Zd) (α : List Addr) (s : Shared) (σ' : Store) (ρ' : Rho) (fl : Fl) (Q : Flow → Shared → Prop) : Prop :=
  ∀ h' tk Z' α' f, Ext O B (FX C env) Z α s.heap Z' α' σ' h' → Frm O Z' α' C env ρ' h' → ρ'.length = C.xs.length → FlOk O Z' α' f fl → Q f { s with heap := h', toks := tk }

noncomputable def SndS (O : Nat → D) (T : Tb) (B : Heap) (prog : Program) (w : World) (b : Nat) (r : ExT) : Prop :=
  ∀ (C : Cx) (sts : List PySem.Stmt) (ms : List MS), CSs T C sts ms → ∀ (A : Around) (s : Shared) (env : Env) (Z : Zd) (α : List Addr) (σ σ' : Store) (ρ ρ' : Rho) (fl : Fl) (Q : Flow → Shared → Prop) (E : Value → Shared → Prop), Room A b → Inv O B Z α σ s.heap →
    Frm O Z α C env ρ s.heap → ρ.length = C.xs.length → r σ ρ ms = some (fl, ρ', σ') → KS O B C env Z α s σ' ρ' fl Q → wpAny (model prog w) A (execs sts env) Q E s

section
variable {O : Nat → D} {T : Tb} {B : Heap} {prog : Program} {w : World} {b : Nat}
variable {F : Nat → FnT} {G : Nat → Option D} {srt : List D → Option (List D)} {mg mb : Str → Option Value} {r : EvT}
variable {A : Around} {s : Shared} {env : Env} {Z : Zd} {α : List Addr} {σ σ' : Store} {ρ ρ' : Rho} {C : Cx} {E : Value → Shared → Prop} {fl : Fl} {Q : Flow → Shared → Prop}

theorem KS.after {h1 : Heap} {Z1 : Zd} {α1 : List Addr} {σ1 : Store} {tk : Nat} (k : KS O B C env Z α s σ' ρ' fl Q) (e : Ext O B (FX C env) Z α s.heap Z1 α1 σ1 h1) : KS O B C env Z1 α1 { s with heap := h1, toks := tk } σ' ρ' fl Q :=
  fun h' tk' Z' α' f e' F' hl r => k h' tk' Z' α' f (e.trans e') F' hl r
theorem Ext.toFX {Z' : Zd} {α' : List Addr} {h h' : Heap} (e : Ext O B (fun _ => False) Z α h Z' α' σ' h') : Ext O B (FX C env) Z α h Z' α' σ' h' := e.weaken fun _ _ _ q => q.elim

theorem no_swap {e : PySem.Expr} (h : isComp e = false) (t : Option PySem.Expr) (n : Nat) (env : Env) : swapsWith e t n env = pure false := by
  cases e <;> first | rfl | cases h
theorem not_interactive (h : env.scope.kind = .function) : interactive env = false := by
  unfold interactive
  rw [h]; rfl

theorem kind_ne (Fm : Frm O Z α C env ρ s.heap) {id : Str} (h : C.ks.lookup id = some .local ∨ C.ks.lookup id = some .cell) : (env.kindOf id == some .local) = (C.ks.lookup id == some .local) := by
  rcases h with h | h
  · rw [h, Fm.kl id h]
  · rw [h, Fm.kc id h]

theorem nms_mem : ∀ {ts : List PySem.Expr} {xs : List Str}, Nms ts xs → ∀ id pos, PySem.Expr.Name id pos ∈ ts → id ∈ xs
  | _, _, .nil, _, _, h => by cases h
  | _, _, .cons r, id, pos, h => by
    rcases List.mem_cons.mp h with e | h
    · cases e; simp
    · exact List.mem_cons_of_mem _ (nms_mem r id pos h)

theorem slots_kinds {xs : List Str} {is : List Nat} (h : slotsOk C xs is = true) : ∀ x ∈ xs, C.ks.lookup x = some .local ∨ C.ks.lookup x = some .cell := fun x hx => by
  obtain ⟨j, hj, rfl⟩ := List.mem_iff_getElem.mp hx
  obtain ⟨i, _, _, q⟩ := (slotsOk_of h).2 j _ (List.getElem?_eq_getElem hj)
  exact q

theorem nms_each : ∀ {ts : List PySem.Expr} {xs : List Str}, Nms ts xs → (assignEach ts env).map (·.2) = ts.map (fun t => assign t env) ∧ (assignEach ts env).findIdx? (·.1) = none ∧ (assignEach ts env).length = ts.length
  | _, _, .nil => ⟨rfl, rfl, rfl⟩
  | _, _, .cons (ts := ts) (x := x) (p := p) r => by
    obtain ⟨h1, h2, h3⟩ := nms_each r
    have e : assignEach (.Name x p :: ts) env = (false, assign (.Name x p) env) :: assignEach ts env := rfl
    rw [e]
    refine ⟨by rw [List.map_cons, List.map_cons, h1], ?_, by simp [h3]⟩
    rw [List.findIdx?_cons]
    simp [h2]

theorem nms_get : ∀ {ts : List PySem.Expr} {xs : List Str}, Nms ts xs → ∀ (j : Nat) st, (ts.map fun t => assign t env)[j]? = some st → ∃ x p, xs[j]? = some x ∧ st = assign (.Name x p) env
  | _, _, .nil, j, st, h => by cases h
  | _, _, .cons (x := x) (p := p) r, j, st, h => by
    cases j with
    | zero => cases h; exact ⟨x, p, rfl, rfl⟩
    | succ j => exact nms_get r j st h
theorem nms_len : ∀ {ts : List PySem.Expr} {xs : List Str}, Nms ts xs → ts.length = xs.length
  | _, _, .nil => rfl
  | _, _, .cons r => by simp [nms_len r]

theorem RWs.app {vs us : List Value} {xs ys : List W} (h : RWs O Z α vs xs) (k : RWs O Z α us ys) : RWs O Z α (vs ++ us) (xs ++ ys) := by
  induction vs generalizing xs with
  | nil => cases h; exact k
  | cons v vs ih => cases h with | cons a r => exact .cons a (ih r)
theorem RWs.rev {vs : List Value} {xs : List W} (h : RWs O Z α vs xs) : RWs O Z α vs.reverse xs.reverse := by
  induction vs generalizing xs with
  | nil => cases h; exact .nil
  | cons v vs ih => cases h with | cons a r => rw [List.reverse_cons, List.reverse_cons]; exact (ih r).app (.cons a .nil)

/-- a tuple's targets, stored in the order of the text or swapped -/
theorem snd_sets (hE : SndE O T B prog w b r) (rm : Room A b) {sw : Bool} {is : List Nat} {xs : List Str} {ts vs : List PySem.Expr} {ms : List ME} {k k' : Nat} {p p' pos : Pos} (hn : Nms ts xs) (hs : slotsOk C xs is = true) (ho : swOk vs = true)
    (hw : swp C.ks ts vs = (if sw then some xs else none)) (hc : CEs T C vs ms) (I : Inv O B Z α σ s.heap) (Fm : Frm O Z α C env ρ s.heap) (hl : ρ.length = C.xs.length) {ws : List W} (he : evL r ρ σ ms = some (ws, σ')) (hi : ∀ i ∈ is, i < ρ.length) (hz : ws.length ≤ big)
    (ha : (if sw then setAll ρ is.reverse ws.reverse else setAll ρ is ws) = some ρ') (K : KS O B C env Z α s σ' ρ' .next Q) : wpAny (model prog w) A (exec (.Assign [.Tuple ts k p] (.Tuple vs k' p') pos) env) Q E s := by
  have hsw : swappedStores [.Tuple ts k p] (.Tuple vs k' p') env = pure (if sw then some xs else none) := by
    rw [← hw]
    exact swapped_of Fm.kind (fun id pos h => kind_ne Fm (slots_kinds hs id (nms_mem hn id pos h))) ho
  obtain ⟨s1, s2⟩ := slotsOk_of hs
  have hlen : ws.length = is.length := by
    have len : ∀ (is : List Nat) (ws : List W) (ρ ρ' : Rho), setAll ρ is ws = some ρ' → ws.length = is.length := by
      intro is
      induction is with
      | nil => intro ws ρ ρ' h; cases ws <;> simp_all [setAll]
      | cons i is ih => intro ws ρ ρ' h; cases ws with
        | nil => simp [setAll] at h
        | cons x ws => rw [setAll] at h; simp [ih ws _ _ h]
    cases sw with
    | true => rw [if_pos rfl] at ha; simpa using len _ _ _ _ ha
    | false => rw [if_neg (by decide)] at ha; exact len _ _ _ _ ha
  -- the tuple is made
  have made : ∀ {P : Value → Shared → Prop}, (∀ vals h' tk Z' α' a, Ext O B (fun _ => False) Z α s.heap Z' α' σ' h' → RWs O Z' α' vals ws → h'.IsTuple a vals.toArray → P (.ref a) { s with heap := h', toks := tk }) → wpAny (model prog w) A (eval (.Tuple vs k' p') env) P E s := fun hP =>
    Tuple_ (sndL hE rm _ _ _ s Z α σ σ' ws _ hc I Fm hl he fun vals h' tk Z' α' x1 r1 => wpAny_newTuple (s := { s with heap := h', toks := tk })
      (hP vals _ tk Z' α' _ (x1.trans (Ext.of_keeps (X := fun _ => False) x1.inv (push_keeps _ _))) r1 ⟨_, Heap.get?_push_size _ rfl, rfl, _, rfl⟩) (Nat.le_trans (by rw [r1.length]; exact hz) big_line))
  cases sw with
  | false =>
    rw [if_neg (by decide)] at ha hsw
    refine Assign_Tuple (made fun vals h' tk Z' α' a x1 r1 ht => ?_) rfl hsw
    obtain ⟨q1, q2, q3⟩ := nms_each (env := env) hn
    refine wpAny_assign_Tuple (s := { s with heap := h', toks := tk }) rm.handled ht (by rw [q3, nms_len hn, List.size_toArray, r1.length, hlen, s1]) q2 fun h2 x2 => ?_
    have x3 := Ext.of_keeps (X := fun _ => False) x1.inv fun b o e => x2 b o (Nat.ne_of_lt (Heap.lt_size e)) e
    have x13 := x1.trans x3
    rw [q1]
    refine snd_stores (C := C) _ is vals ws { s with heap := h2, toks := tk } ρ ρ' σ' _ (by rw [List.length_map, nms_len hn, s1]) (fun j st q => ?_) x3.inv (Fm.ext x13) r1 ha fun h4 tk4 x4 F4 => ?_
    · obtain ⟨x, px, e1, rfl⟩ := nms_get hn j st q
      obtain ⟨i, e2, e3, e4⟩ := s2 j x e1
      exact ⟨x, i, e2, e3, hi i (List.mem_of_getElem? e2), e4, fun v Q s h => wpAny_assign_Name h⟩
    · exact K h4 tk4 Z' α' .next (x13.toFX.trans x4) F4 (by rw [setAll_len _ _ _ _ ha, hl]) trivial
  | true =>
    rw [if_pos rfl] at ha hsw
    refine Assign_Tuple_swapped (names := xs) (made fun vals h' tk Z' α' a x1 r1 ht => ?_) rfl hsw
    have hsz : xs.length = vals.toArray.size := by rw [List.size_toArray, r1.length, hlen, s1]
    rw [hsz]
    refine wpAny_unpackItems_tuple (s := { s with heap := h', toks := tk }) rm.handled ht fun h2 x2 => ?_
    have x3 := Ext.of_keeps (X := fun _ => False) x1.inv fun b o e => x2 b o (Nat.ne_of_lt (Heap.lt_size e)) e
    have x13 := x1.trans x3
    refine snd_stores (C := C) (xs.reverse.map fun n => bindName env n) is.reverse vals.reverse ws.reverse { s with heap := h2, toks := tk } ρ ρ' σ' _ (by simp [s1]) (fun j st q => ?_) x3.inv (Fm.ext x13) r1.rev ha fun h4 tk4 x4 F4 => ?_
    · rw [List.getElem?_map] at q
      cases e : xs.reverse[j]? with
      | none => rw [e] at q; cases q
      | some x =>
        rw [e] at q
        cases q
        have hj : j < xs.length := by simpa using (List.getElem?_eq_some_iff.mp e).1
        rw [List.getElem?_reverse hj] at e
        obtain ⟨i, e2, e3, e4⟩ := s2 _ x e
        refine ⟨x, i, ?_, e3, hi i (List.mem_of_getElem? e2), e4, fun v Q s h => wpAny_bindName h⟩
        rw [List.getElem?_reverse (by rw [s1]; exact hj), s1]
        exact e2
    · exact K h4 tk4 Z' α' .next (x13.toFX.trans x4) F4 (by rw [setAll_len _ _ _ _ ha, hl]) trivial
end
end Mine


namespace Mine
section
variable {O : Nat → D} {T : Tb} {B : Heap} {prog : Program} {w : World} {b : Nat}
variable {F : Nat → FnT} {G : Nat → Option D} {srt : List D → Option (List D)} {mg mb : Str → Option Value} {r : EvT}
variable {A : Around} {s : Shared} {env : Env} {Z : Zd} {α : List Addr} {σ σ' : Store} {ρ ρ' : Rho} {C : Cx} {E : Value → Shared → Prop} {fl : Fl} {Q : Flow → Shared → Prop}

theorem ex_loop_step {n : Nat} {c : ME} {bd : List MS} {p : Fl × Rho × Store} (h : exS F G srt n σ ρ [.loop c bd] = some p) : ∃ m, n = m + 1 ∧ ex1 (evE F G srt m) (exS F G srt m) σ ρ (.loop c bd) = some p := by
  cases n with
  | zero => simp [exS] at h
  | succ m =>
    refine ⟨m, rfl, ?_⟩
    simp only [exS] at h
    obtain ⟨q, hq, h⟩ := b2 h
    obtain ⟨f, ρ1, σ1⟩ := q
    cases f with
    | ret x => simp only at h; rw [hq]; exact h
    | next =>
      simp only at h
      cases m with
      | zero => simp [exS] at h
      | succ m => simp only [exS] at h; rw [hq]; exact h

/-- the machine's own list, changed in place -/
theorem chg_ext (I : Inv O B Z α σ s.heap) {j : Nat} {a : Addr} {l l' : List D} {h' : Heap} {vs : List Value} {n : Nat} (ha : α[j]? = some a) (hl : σ[j]? = some l) (hs : Heap.SameBut a s.heap h') (ho : h'.get? a = some (listOf vs.toArray n)) (r : RDs O Z vs l') :
    Ext O B (fun _ => False) Z α s.heap Z α (σ.set j l') h' := Ext.setM I ha ⟨l, hl⟩ hs ho r

theorem frm_word (Fm : Frm O Z α C env ρ s.heap) {i : Nat} {x : Str} {j : Nat} {pos : Pos} {P : Value → Shared → Prop} (hx : slotOk C x i = true) (hn : nameOk x = true) (hr : ρ[i]? = some (some (.m j))) (k : ∀ a, α[j]? = some a → P (.ref a) s) :
    wpAny (model prog w) A (eval (.Name x pos) env) P E s := by
  obtain ⟨h1, h2⟩ := slotOk_of hx
  refine load_name Fm h1 hr hn (by rcases h2 with h | h <;> simp [h]) fun v rv => ?_
  cases rv with
  | m h => exact k _ h

theorem snd_app (hE : SndE O T B prog w b r) (rm : Room A b) {i : Nat} {x : Str} {p ap cp pos : Pos} {e : PySem.Expr} {m : ME} (hx : slotOk C x i = true) (hn : nameOk x = true) (hm : methEq "append" x p ap cp e) (hst : isStar e = false) (he : CE T C e m)
    (I : Inv O B Z α σ s.heap) (Fm : Frm O Z α C env ρ s.heap) (hl : ρ.length = C.xs.length) (hev : ex1 r (fun _ _ _ => none) σ ρ (.app i m) = some (fl, ρ', σ')) (K : KS O B C env Z α s σ' ρ' fl Q) :
    wpAny (model prog w) A (exec (.Expr (.Call (.Attribute (.Name x p) "append" ap) [e] [] cp) pos) env) Q E s := by
  simp only [ex1] at hev
  obtain ⟨q, hq, hev⟩ := b2 hev
  obtain ⟨y, hy, hev⟩ := b2 hev
  split at hev
  · rename_i j hj
    obtain ⟨l, hl', hev⟩ := b2 hev
    split at hev
    · rename_i hz
      cases hev
      refine wpAny_Expr ?_ (not_interactive Fm.kind) rfl
      obtain ⟨pl, hm⟩ := hm env
      refine MethodCall_ (pl := pl) ?_ hm
      refine frm_word Fm hx hn hj fun a ha => ?_
      -- the list stands: not changed by the argument, but for its items
      have g : ∃ vs n, s.heap.get? a = some (listOf (List.toArray vs) n) := by
        have hj' : j < α.length := (List.getElem?_eq_some_iff.mp ha).1
        obtain ⟨vs, n, g, _⟩ := I.cell j a (σ[j]'(by rw [← I.len]; exact hj')) ha (List.getElem?_eq_getElem _)
        exact ⟨vs, n, g⟩
      obtain ⟨vs, n, g⟩ := g
      refine Calls.getMethod_list_append g rfl rfl ?_
      refine callWith_method1 ?_ (star_cons hst) rfl
      refine sndL hE rm [e] [m] cp s Z α σ q.2 [q.1] _ (.cons hst he .nil) I Fm hl (by simp only [evL, hq]; rfl) fun us h' tk Z' α' x1 r1 => ?_
      cases r1 with
      | cons r1 r2 =>
        cases r2
        obtain ⟨β, rfl, hβ⟩ := x1.pre
        have ha' : (α ++ β)[j]? = some a := by rw [List.getElem?_append_left (List.getElem?_eq_some_iff.mp ha).1]; exact ha
        obtain ⟨vs', n', g', rr⟩ := x1.inv.cell j a l ha' hl'
        refine wpAny_list_append_plain (s := { s with heap := h', toks := tk }) (l := a) (items := vs'.toArray) ⟨n', g'⟩ (fun h2 hp hs => ?_) (by rw [List.size_toArray, rr.length]; exact Nat.le_trans hz big_line)
        obtain ⟨n2, g2⟩ := hp
        have x2 := chg_ext (s := { s with heap := h', toks := tk }) (vs := vs' ++ [_]) (n := n2) x1.inv ha' hl' hs (by rw [g2]; simp) (rr.append (.cons (wD_of r1 hy) .nil))
        have x12 := x1.trans x2
        exact K h2 tk Z' _ .next x12.toFX (Fm.ext x12) hl trivial
    · cases hev
  · cases hev

theorem snd_rem (hE : SndE O T B prog w b r) (rm : Room A b) {i : Nat} {x : Str} {p ap cp pos : Pos} {e : PySem.Expr} {m : ME} (hx : slotOk C x i = true) (hn : nameOk x = true) (hm : methEq "remove" x p ap cp e) (hst : isStar e = false) (he : CE T C e m)
    (I : Inv O B Z α σ s.heap) (Fm : Frm O Z α C env ρ s.heap) (hl : ρ.length = C.xs.length) (hev : ex1 r (fun _ _ _ => none) σ ρ (.rem i m) = some (fl, ρ', σ')) (K : KS O B C env Z α s σ' ρ' fl Q) :
    wpAny (model prog w) A (exec (.Expr (.Call (.Attribute (.Name x p) "remove" ap) [e] [] cp) pos) env) Q E s := by
  simp only [ex1] at hev
  obtain ⟨q, hq, hev⟩ := b2 hev
  split at hev
  · rename_i a0 j hq1 hj
    obtain ⟨l, hl', hev⟩ := b2 hev
    split at hev
    · rename_i hz
      obtain ⟨ns, hns, hev⟩ := b2 hev
      obtain ⟨ns', hns', hev⟩ := m2 hev
      cases hev
      refine wpAny_Expr ?_ (not_interactive Fm.kind) rfl
      obtain ⟨pl, hm⟩ := hm env
      refine MethodCall_ (pl := pl) ?_ hm
      refine frm_word Fm hx hn hj fun a ha => ?_
      have g : ∃ vs n, s.heap.get? a = some (listOf (List.toArray vs) n) := by
        have hj' : j < α.length := (List.getElem?_eq_some_iff.mp ha).1
        obtain ⟨vs, n, g, _⟩ := I.cell j a (σ[j]'(by rw [← I.len]; exact hj')) ha (List.getElem?_eq_getElem _)
        exact ⟨vs, n, g⟩
      obtain ⟨vs, n, g⟩ := g
      refine getMethod_list_of PySem.F.slot_list_remove PySem.F.type_list_remove (isList_of g) ⟨_, g, rfl⟩ ?_
      refine callWith_method1 ?_ (star_cons hst) rfl
      refine sndL hE rm [e] [m] cp s Z α σ q.2 [q.1] _ (.cons hst he .nil) I Fm hl (by simp only [evL, hq]; rfl) fun us h' tk Z' α' x1 r1 => ?_
      cases r1 with
      | cons r1 r2 =>
        cases r2
        rw [hq1] at r1
        cases r1 with
        | d r1 =>
          cases r1
          obtain ⟨β, rfl, hβ⟩ := x1.pre
          have ha' : (α ++ β)[j]? = some a := by rw [List.getElem?_append_left (List.getElem?_eq_some_iff.mp ha).1]; exact ha
          obtain ⟨vs', n', g', rr⟩ := x1.inv.cell j a l ha' hl'
          refine call_remove (s := { s with heap := h', toks := tk }) g' (IntsAre_of rr hns) hns' (by rw [rr.length]; exact Nat.le_trans hz big_line) fun h2 vs2 n2 g2 hi hs => ?_
          have x2 := chg_ext (s := { s with heap := h', toks := tk }) x1.inv ha' hl' hs g2 (RDs_ints hi)
          have x12 := x1.trans x2
          exact K h2 tk Z' _ .next x12.toFX (Fm.ext x12) hl trivial
    · cases hev
  · cases hev

theorem snd_setItem (hE : SndE O T B prog w b r) (rm : Room A b) {i : Nat} {x : Str} {p sp pos : Pos} {ke ve : PySem.Expr} {km vm : ME} (hx : slotOk C x i = true) (hn : nameOk x = true) (hcp : isComp ve = false) (hv : CE T C ve vm) (hk : CE T C ke km)
    (I : Inv O B Z α σ s.heap) (Fm : Frm O Z α C env ρ s.heap) (hl : ρ.length = C.xs.length) (hev : ex1 r (fun _ _ _ => none) σ ρ (.setItem i km vm) = some (fl, ρ', σ')) (K : KS O B C env Z α s σ' ρ' fl Q) :
    wpAny (model prog w) A (exec (.Assign [.Subscript (.Name x p) ke sp] ve pos) env) Q E s := by
  simp only [ex1] at hev
  obtain ⟨q, hq, hev⟩ := b2 hev
  obtain ⟨y, hy, hev⟩ := b2 hev
  obtain ⟨u, hu, hev⟩ := b2 hev
  split at hev
  · rename_i j k0 hj hu1
    obtain ⟨l, hl', hev⟩ := b2 hev
    split at hev
    · rename_i hc
      simp only [Bool.and_eq_true, decide_eq_true_eq] at hc
      cases hev
      refine wpAny_Assign_Subscript ?_ (no_swap hcp _ _ _)
      refine hE C _ _ hv A s env Z α σ q.2 ρ q.1 _ _ rm I Fm hl hq fun v h1 tk1 Z1 α1 x1 r1 => ?_
      have F1 := Fm.ext x1
      refine frm_word (s := { s with heap := h1, toks := tk1 }) F1 hx hn hj fun a ha => ?_
      refine hE C _ _ hk A _ env Z1 α1 q.2 u.2 ρ u.1 _ _ rm x1.inv F1 hl hu fun kv h2 tk2 Z2 α2 x2 r2 => ?_
      rw [hu1] at r2
      cases r2 with
      | d r2 =>
        cases r2
        obtain ⟨β, rfl, hβ⟩ := x2.pre
        have ha' : (α1 ++ β)[j]? = some a := by rw [List.getElem?_append_left (List.getElem?_eq_some_iff.mp ha).1]; exact ha
        obtain ⟨vs', n', g', rr⟩ := x2.inv.cell j a l ha' hl'
        have f := small_fits hc.1.2
        refine ki_setAt (s := { s with heap := h2, toks := tk2 }) g' hc.1.1 (by omega) (by rw [List.size_toArray, rr.length]; have := hc.2; omega) ?_
        have g3 := Heap.get?_update_self (Obj.mapSeq fun xs => xs.setIfInBounds k0.toNat v) g' rfl
        have e3 : Obj.mapSeq (fun xs => xs.setIfInBounds k0.toNat v) (listOf vs'.toArray n') = listOf (vs'.set k0.toNat v).toArray n' := by
          have e1 : vs'.toArray.setIfInBounds k0.toNat v = (vs'.set k0.toNat v).toArray := by simp
          unfold Obj.mapSeq
          simp only [e1]
          rw [show ((vs'.set k0.toNat v).toArray.size == vs'.toArray.size) = true by simp]
          rfl
        rw [e3] at g3
        have x3 := chg_ext (s := { s with heap := h2, toks := tk2 }) x2.inv ha' hl' (Heap.SameBut.update ..) g3 (rr.set ((wD_of r1 hy).mono x2.sub) k0.toNat)
        have x13 := (x1.trans x2).trans x3
        exact K _ tk2 Z2 _ .next x13.toFX (Fm.ext x13) hl trivial
    · cases hev
  · cases hev

end
end Mine


namespace Mine
section
variable {O : Nat → D} {T : Tb} {B : Heap} {prog : Program} {w : World} {b : Nat}
variable {F : Nat → FnT} {G : Nat → Option D} {srt : List D → Option (List D)} {mg mb : Str → Option Value} {r : EvT}
variable {A : Around} {s : Shared} {env : Env} {Z : Zd} {α : List Addr} {σ σ' : Store} {ρ ρ' : Rho} {C : Cx} {E : Value → Shared → Prop} {fl : Fl} {Q : Flow → Shared → Prop}

theorem flow_ok {Z' : Zd} {α' : List Addr} {f : Flow} (h : FlOk O Z' α' f fl) : (fl = .next ∧ f = .next) ∨ ∃ v x, fl = .ret x ∧ f = .ret v ∧ RW O Z' α' v x := by
  cases fl with
  | next => cases f with
    | next => exact .inl ⟨rfl, rfl⟩
    | ret v => exact False.elim h
    | brk => exact False.elim h
    | cont => exact False.elim h
  | ret x => cases f with
    | next => exact False.elim h
    | ret v => exact .inr ⟨v, x, rfl, rfl, h⟩
    | brk => exact False.elim h
    | cont => exact False.elim h

/-- a name is bound to a comprehension's list, the stores exchanged -/
theorem snd_setc (Gd : Gl O T B prog w b F G srt mg mb) {n : Nat} (hE : ∀ n, SndE O T B prog w b (evE F G srt n)) (hT : ∀ n, SndT O T B prog w b (evE F G srt n)) (rm : Room A b) {i : Nat} {x : Str} {p pos : Pos} {elt target iter : PySem.Expr} {ifs : List PySem.Expr} {scope : Scope} {cp : Pos} {m : ME}
    (hx : slotOk C x i = true) (hk : C.ks.lookup x = some .local) (hsw : ∀ env : Env, env.scope.kind = .function → env.kindOf x = some .local → swapsWith (.ListComp elt [⟨target, iter, ifs, 0⟩] scope cp) (some (.Name x p)) pos.line env = pure true)
    (hc : CE T C (.ListComp elt [⟨target, iter, ifs, 0⟩] scope cp) m) (I : Inv O B Z α σ s.heap) (Fm : Frm O Z α C env ρ s.heap) (hl : ρ.length = C.xs.length) {y : W} (he : evE F G srt n σ ρ m = some (y, σ')) (hi : i < ρ.length)
    (K : KS O B C env Z α s σ' (ρ.set i (some y)) .next Q) : wpAny (model prog w) A (exec (.Assign [.Name x p] (.ListComp elt [⟨target, iter, ifs, 0⟩] scope cp) pos) env) Q E s := by
  cases hc with
  | stop => cases n <;> cases he
  | comp sc ht htwo hke hci hce hcc =>
    cases n with
    | zero => cases he
    | succ n =>
      refine iv_comp he (R := fun y σ' => KS O B C env Z α s σ' (ρ.set i (some y)) .next Q) K fun q t hq ht2 K => ?_
      obtain ⟨h1, h2⟩ := slotOk_of hx
      rw [exec_Assign_Name_used _ _ _ _ (hsw env Fm.kind (Fm.kl x hk))]
      refine wpAny_bind (wpAny_standAt (wpAny_bind ?_))
      show wpAny _ A (do let _ ← comprehension (.ListComp elt [⟨target, iter, ifs, 0⟩] scope cp) scope env _ (newList []) false (eval iter env) (some (assign (.Name x p) env))) _ _ s
      refine wpAny_bind (wpAny_mono (snd_comp (Q := fun _ s' => Q .next s') Gd (hE n) (hT n) rm sc ht htwo hke hci hce hcc I Fm hl hq ht2 (use := some (assign (.Name x p) env)) ?_) (fun _ s' hq => wpAny_pure (wpAny_pure hq)) fun _ _ e => e)
      intro acc L h1' tk Z1 α1 ys nn x0 sa sL ne off hm g r
      have xt := x0.tell g (off acc (by simp)).2.1 sa
      have xf := xt.weaken (Y := fun _ => False) fun a o e q => not_some_none q e
      have F1 := Fm.ext xf
      show wpAny _ A (assign (.Name x p) env (.ref acc)) _ _ _
      refine wpAny_assign_Name (store_name (s := { s with heap := h1', toks := tk }) (w := .d (.lst t.1)) xf.inv F1 h1 hi h2 (.d (.lst (.inr ⟨rfl, rfl⟩) (r.mono fun _ _ z => .inl z))) fun h3 tk3 x3 F3 => ?_)
      obtain ⟨mm, hm⟩ := hm
      have nLfx : ¬ FX C env L := fun q => by
        rcases q with q | ⟨z, _, q⟩
        · obtain ⟨m0, hm0, _⟩ := Fm.ns
          obtain ⟨o, ho⟩ := Ns.live hm0
          rw [← show L = env.locals from q] at ho
          exact not_some_none sL ho
        · obtain ⟨_, _, _, v, o, ho, _⟩ := Fm.cz z L q
          exact not_some_none sL ho
      have offL : Off (Zadd Z1 acc (listOf ys.toArray nn)) α1 h1' [L] := fun b hb => by
        rw [List.mem_singleton.mp hb]
        obtain ⟨o1, o2, o3⟩ := off L (by simp)
        exact ⟨fun o z => by rcases z with z | ⟨q, _⟩; exact o1 o z; exact ne q.symm, o2, o3⟩
      have offL3 := offL.ext x3 fun b hb => by rw [List.mem_singleton.mp hb]; exact nLfx
      refine ⟨mm, hm.at' fun o e => x3.keep L o (offL L (by simp)).2.1 nLfx e, fun h4 hs4 => ?_⟩
      have x4 : Ext O B (· ∈ [L]) (Zadd Z1 acc (listOf ys.toArray nn)) α1 h3 (Zadd Z1 acc (listOf ys.toArray nn)) α1 t.2 h4 := ext_own (s := { s with heap := h3, toks := tk3 }) x3.inv offL3 fun b o nb e => (hs4.2 b (fun qq => nb (by simp [qq]))).trans e
      have F4 := F3.extX x4 (fun q => nLfx (.inl (List.mem_singleton.mp q).symm)) fun z c e q => by
        have : c = L := List.mem_singleton.mp q
        subst this
        obtain ⟨_, _, _, v, o, ho, _⟩ := Fm.cz z c e
        exact not_some_none sL ho
      have xa := (xf.toFX (C := C) (env := env)).trans x3
      have xb := (xa.weaken (Y := fun a => FX C env a ∨ s.heap.get? a = none) fun a o _ q => .inl q).trans (x4.weaken fun a o _ q => .inr (by rw [List.mem_singleton.mp q]; exact sL))
      have xc := xb.weaken (Y := FX C env) fun a o e q => q.elim id fun q => (not_some_none q e).elim
      exact K h4 tk3 _ α1 .next xc F4 (by rw [List.length_set]; exact hl) trivial

theorem iv_flow {f : Fl} {X : Option (Fl × Rho × Store)} {y : W → Fl × Rho × Store} {z : Fl × Rho × Store} (h : (match f with
    | .next => X
    | .ret w => some (y w)) = some z) : (f = .next → X = some z) ∧ ∀ w, f = .ret w → y w = z := by
  cases f with
  | next => exact ⟨fun _ => h, fun _ e => nomatch e⟩
  | ret w => exact ⟨fun e => (nomatch e), fun v e => by cases e; exact Option.some.inj h⟩
theorem iv_loop {c : ME} {bd : List MS} {rs : ExT} {P : Prop} (h : ex1 r rs σ ρ (.loop c bd) = some (fl, ρ', σ')) (k : ∀ p t, r σ ρ c = some p → asTru p.1 = some t → (t = false → fl = .next ∧ ρ = ρ' ∧ p.2 = σ') →
    (t = true → ∃ f ρ3 σ3, rs p.2 ρ bd = some (f, ρ3, σ3) ∧ (f = .next → rs σ3 ρ3 [.loop c bd] = some (fl, ρ', σ')) ∧ ∀ w, f = .ret w → fl = .ret w ∧ ρ3 = ρ' ∧ σ3 = σ') → P) : P :=
  bE (show Option.bind _ _ = _ from h) fun p hp h => bE h fun t ht h => k p t hp ht (fun e => by have := (if_neg (by rw [e]; exact Bool.false_ne_true)).symm.trans h; cases this; exact ⟨rfl, rfl, rfl⟩)
    (fun e => bE ((if_pos e).symm.trans h) fun q hq h => ⟨q.1, q.2.1, q.2.2, hq, (iv_flow (y := fun w => (Fl.ret w, q.2.1, q.2.2)) h).1, fun w e => by have := (iv_flow (y := fun w => (Fl.ret w, q.2.1, q.2.2)) h).2 w e; cases this; exact ⟨rfl, rfl, rfl⟩⟩)
/-- what holds ahead of each turn of a while -/
inductive WhileAt (O : Nat → D) (B : Heap) (Z : Zd) (α : List Addr) (s : Shared) (C : Cx) (env : Env) (n : Nat) (F : Nat → FnT) (G : Nat → Option D) (srt : List D → Option (List D)) (cm : ME) (am : List MS) (fl : Fl) (ρ' : Rho) (σ' : Store) (k : Nat) : Shared → Prop
  | mk {h1 : Heap} {tk : Nat} {Z1 : Zd} {α1 : List Addr} {σ1 : Store} {ρ1 : Rho} : k ≤ n → Ext O B (FX C env) Z α s.heap Z1 α1 σ1 h1 → Frm O Z1 α1 C env ρ1 h1 → ρ1.length = C.xs.length → ex1 (evE F G srt k) (exS F G srt k) σ1 ρ1 (.loop cm am) = some (fl, ρ', σ') →
      WhileAt O B Z α s C env n F G srt cm am fl ρ' σ' k { s with heap := h1, toks := tk }
theorem snd_while (Gd : Gl O T B prog w b F G srt mg mb) (n : Nat) (hS : ∀ m, m ≤ n → SndS O T B prog w b (exS F G srt m)) (rm : Room A b) {c : PySem.Expr} {a : List PySem.Stmt} {cm : ME} {am : List MS} {pos : Pos} (hc : CT T C c cm) (ha : CSs T C a am)
    (I : Inv O B Z α σ s.heap) (Fm : Frm O Z α C env ρ s.heap) (hl : ρ.length = C.xs.length) (he : ex1 (evE F G srt n) (exS F G srt n) σ ρ (.loop cm am) = some (fl, ρ', σ')) (K : KS O B C env Z α s σ' ρ' fl Q) :
    wpAny (model prog w) A (exec (.While c a [] pos) env) Q E s := by
  refine wpAny_While (codeAny_whileLoop (WhileAt O B Z α s C env n F G srt cm am fl ρ' σ') (fun k s' H => ?_) n (.mk (Nat.le_refl _) (Ext.refl I) Fm hl he))
  cases H with
  | @mk h1 tk Z1 α1 σ1 ρ1 hkn x1 F1 l1 e1 =>
    refine iv_loop e1 fun p t hp ht k1 k2 => ?_
    refine sndT Gd k C _ _ hc A { s with heap := h1, toks := tk } env Z1 α1 σ1 p.2 ρ1 p.1 t _ _ rm x1.inv F1 l1 hp ht fun h2 tk2 Z2 α2 x2 => ?_
    have F2 := F1.ext x2
    have x12 := x1.trans x2.toFX
    cases t with
    | false =>
      obtain ⟨e1, e2, e3⟩ := k1 rfl
      subst e1 e2
      exact wpAny_execs_nil (K h2 tk2 Z2 α2 .next (e3 ▸ x12) F2 l1 trivial)
    | true =>
      obtain ⟨f, ρ3, σ3, hq, k3, k4⟩ := k2 rfl
      refine hS k hkn C _ _ ha A { s with heap := h2, toks := tk2 } env Z2 α2 p.2 σ3 ρ1 ρ3 f _ _ rm x2.inv F2 l1 hq fun h3 tk3 Z3 α3 f' x3 F3 l3 ok => ?_
      rcases flow_ok ok with ⟨e, rfl⟩ | ⟨v, y, e, rfl, ry⟩
      · obtain ⟨m, rfl, e4⟩ := ex_loop_step (k3 e)
        exact ⟨m, Nat.lt_succ_self _, .mk (Nat.le_of_succ_le hkn) (x12.trans x3) F3 l3 e4⟩
      · obtain ⟨rfl, rfl, rfl⟩ := k4 _ e
        exact K h3 tk3 Z3 α3 (.ret v) (x12.trans x3) F3 l3 ry

/-! what a loop's run tells -/
section
variable {rs : ExT} {tg : List Nat} {bd : List MS} {st : Option (Nat × List D)} {P : Prop}
theorem iv_eachN (h : exEach rs tg bd st σ ρ [] = some (fl, ρ', σ')) : fl = .next ∧ ρ = ρ' ∧ σ = σ' := by
  cases h; exact ⟨rfl, rfl, rfl⟩
theorem iv_eachC {x : D} {xs : List D} (h : exEach rs tg bd st σ ρ (x :: xs) = some (fl, ρ', σ')) (k : ∀ ρ4 f ρ5 σ5, bindT ρ tg x = some ρ4 → rs σ ρ4 bd = some (f, ρ5, σ5) → (f = .next → stays st σ5 = true ∧ exEach rs tg bd st σ5 ρ5 xs = some (fl, ρ', σ')) →
      (∀ w, f = .ret w → fl = .ret w ∧ ρ5 = ρ' ∧ σ5 = σ') → P) : P :=
  bE (show Option.bind _ _ = _ from h) fun ρ4 hb h => bE h fun p hp h => k ρ4 p.1 p.2.1 p.2.2 hb hp (fun e => iE ((iv_flow (y := fun w => (Fl.ret w, p.2.1, p.2.2)) h).1 e) fun a b => ⟨a, b⟩)
    (fun w e => by have := (iv_flow (y := fun w => (Fl.ret w, p.2.1, p.2.2)) h).2 w e; cases this; exact ⟨rfl, rfl, rfl⟩)
end
theorem bindT_len {is : List Nat} {x : D} {ρ1 ρ2 : Rho} (h : bindT ρ1 is x = some ρ2) : ρ2.length = ρ1.length := by
  unfold bindT at h
  split at h <;> first | (cases h; simp) | cases h
theorem bindT_two {is : List Nat} {x : D} {ρ1 ρ2 : Rho} (h : bindT ρ1 is x = some ρ2) (h2 : is.length = 2) : ∃ ds, x = .tup ds := by
  unfold bindT at h
  split at h
  · simp at h2
  · exact ⟨_, rfl⟩
  · cases h
theorem tgt_ok {target : PySem.Expr} {tg : List Str} (ht : Tgt target tg) : TgOk (decide (tg.length = 2)) target := by
  unfold TgOk
  cases ht with
  | one => rw [if_neg (by simp)]; exact ⟨_, _, rfl⟩
  | two => rw [if_pos (by simp)]; exact ⟨_, _, _, rfl⟩
abbrev FXn (C : Cx) (env : Env) (s : Shared) (a : Addr) : Prop := FX C env a ∨ s.heap.get? a = none
theorem close_x {Z9 : Zd} {α9 : List Addr} {σ9 : Store} {h9 : Heap} (x : Ext O B (FXn C env s) Z α s.heap Z9 α9 σ9 h9) : Ext O B (FX C env) Z α s.heap Z9 α9 σ9 h9 :=
  x.weaken fun a o e q => q.elim id fun q => (not_some_none q e).elim
/-- what holds ahead of each turn of a loop -/
inductive ForAt (O : Nat → D) (B : Heap) (Z : Zd) (α : List Addr) (s : Shared) (C : Cx) (env : Env) (rs : ExT) (is : List Nat) (am : List MS) (I0 : Addr) (fp : List Addr) (st : Option (Nat × List D)) (fl : Fl) (ρ' : Rho) (σ' : Store) : Nat → Shared → Prop
  | mk {h3 : Heap} {tk : Nat} {Z3 : Zd} {α3 : List Addr} {σ3 : Store} {ρ3 : Rho} {l3 : List D} : Ext O B (FXn C env s) Z α s.heap Z3 α3 σ3 h3 → Frm O Z3 α3 C env ρ3 h3 → ρ3.length = C.xs.length → ItSt O Z3 α3 h3 I0 fp st l3 → stays st σ3 = true →
      exEach rs is am st σ3 ρ3 l3 = some (fl, ρ', σ') → Off Z3 α3 h3 fp → ForAt O B Z α s C env rs is am I0 fp st fl ρ' σ' (l3.length + 1) { s with heap := h3, toks := tk }

theorem snd_for (Gd : Gl O T B prog w b F G srt mg mb) (n : Nat) (hS : SndS O T B prog w b (exS F G srt n)) (rm : Room A b) {target iter : PySem.Expr} {tg : List Str} {is : List Nat} {k : IK} {args : List ME} {a : List PySem.Stmt} {am : List MS} {pos : Pos} (ht : Tgt target tg) (hs : slotsOk C tg is = true)
    (hke : k = .enum → tg.length = 2) (hi : CI T C iter k args) (ha : CSs T C a am)
    (I : Inv O B Z α σ s.heap) (Fm : Frm O Z α C env ρ s.heap) (hl : ρ.length = C.xs.length) (he : ex1 (evE F G srt n) (exS F G srt n) σ ρ (.each is k args am) = some (fl, ρ', σ')) (K : KS O B C env Z α s σ' ρ' fl Q) :
    wpAny (model prog w) A (exec (.For target iter a [] pos) env) Q E s := by
  refine bE (show Option.bind _ _ = _ from he) fun p hp he => iE he fun hlt he => ?_
  obtain ⟨l, st, σ1⟩ := p
  obtain ⟨s1, s2⟩ := slotsOk_of hs
  refine wpAny_For ?_ (iter_fold hi env)
  refine sndI Gd (sndE Gd n) rm hi I Fm hl hp fun I0 fp h1 tk1 Z1 α1 x1 ffp off it hst h2 => ?_
  have nLf : env.locals ∉ fp := fun q => by
    obtain ⟨m0, hm0, _⟩ := Fm.ns
    obtain ⟨o, ho⟩ := Ns.live hm0
    exact not_some_none (ffp _ q) ho
  have ncf : ∀ x c, env.cells.lookup x = some c → c ∉ fp := fun x c e q => by
    obtain ⟨_, _, _, v, o, ho, _⟩ := Fm.cz x c e
    exact not_some_none (ffp _ q) ho
  have nfx : ∀ b ∈ fp, ¬ FX C env b := fun b hb q => by
    rcases q with q | ⟨y, _, q⟩
    · exact nLf (by rw [← show b = env.locals from q]; exact hb)
    · exact ncf y b q hb
  refine codeAny_forLoop_any (ForAt O B Z α s C env (exS F G srt n) is am I0 fp st fl ρ' σ') (fun n' s' H => ?_) (l.length + 1) (.mk (x1.weaken fun _ _ _ q => q.elim) (Fm.ext x1) hl it hst he off)
  cases H with
  | @mk h3 tk3 Z3 α3 σ3 ρ3 l3 x3 F3 len3 it3 st3 ev3 off3 =>
    cases l3 with
    | nil =>
      obtain ⟨rfl, rfl, rfl⟩ := iv_eachN ev3
      refine it_done (s := { s with heap := h3, toks := tk3 }) x3.inv rm.handled it3 off3 st3 fun h4 tk4 x4 => ?_
      exact wpAny_execs_nil (K h4 tk4 Z3 α3 .next (close_x (x3.trans (x4.weaken fun a o _ q => .inr (ffp a q)))) (F3.extX x4 nLf fun x c q => ncf x c q) len3 trivial)
    | cons x l4 =>
      refine iv_eachC ev3 fun ρ4 f ρ5 σ5 hb hq k1 k2 => ?_
      refine it_item (s := { s with heap := h3, toks := tk3 }) x3.inv (tgt_ok ht) (fun q => bindT_two hb (s1.trans (of_decide_eq_true q))) (fun q => decide_eq_true (hke (h2 q))) it3 off3 st3 fun v h4 tk4 Z4 x4 rv it4 off4 => ?_
      refine snd_bind (s := { s with heap := h4, toks := tk4 }) (C := C) rm.handled ht (fun j y q => ?_) s1 (slots_kinds hs) x4.inv (F3.extX x4 nLf fun x c q => ncf x c q) rv hb fun h5 tk5 x5 F5 => ?_
      · obtain ⟨i, e1, e2, _⟩ := s2 j y q
        exact ⟨i, e1, e2, by rw [len3, ← hl]; exact of_decide_eq_true (List.all_eq_true.mp hlt i (List.mem_of_getElem? e1))⟩
      have off5 := off4.ext x5 nfx
      have x35 := (x3.trans (x4.weaken (Y := FXn C env s) fun a o _ q => .inr (ffp a q))).trans (x5.weaken (Y := FXn C env s) fun a o _ q => .inl q)
      refine hS C _ _ ha A { s with heap := h5, toks := tk5 } env Z4 α3 σ3 σ5 ρ4 ρ5 f _ _ rm x5.inv F5 ((bindT_len hb).trans len3) hq fun h6 tk6 Z6 α6 f' x6 F6 len6 ok => ?_
      have x36 := x35.trans (x6.weaken (Y := FXn C env s) fun a o _ q => .inl q)
      rcases flow_ok ok with ⟨e, rfl⟩ | ⟨v', y, e, rfl, ry⟩
      · obtain ⟨st6, ev6⟩ := k1 e
        have it5 : ItSt O Z4 α3 h5 I0 fp st l4 := it4.keep (fun b hb o q => x5.keep b o (off4 b hb).2.1 (nfx b hb) q) (fun _ _ z => z) ⟨[], (List.append_nil _).symm⟩
        exact ⟨l4.length + 1, Nat.lt_succ_self _, .mk x36 F6 len6 (it5.keep (fun b hb o q => x6.keep b o (off5 b hb).2.1 (nfx b hb) q) x6.sub x6.pfx) st6 ev6 (off5.ext x6 nfx)⟩
      · obtain ⟨rfl, rfl, rfl⟩ := k2 _ e
        exact K h6 tk6 Z6 α6 (.ret v') (close_x x36) F6 len6 ry

theorem tR {R : Fl → Rho → Store → Prop} {f : Fl} {a : Rho} {c : Store} (h : some (f, a, c) = some (fl, ρ', σ')) (K : R fl ρ' σ') : R f a c := by
  cases h; exact K
theorem tR2 {R : Fl → Rho → Store → Prop} {f : Fl} {a : Rho} {c : Store} (h : (f, a, c) = (fl, ρ', σ')) (K : R fl ρ' σ') : R f a c := by
  cases h; exact K
theorem snd1 (Gd : Gl O T B prog w b F G srt mg mb) (n : Nat) (hS : ∀ m, m ≤ n → SndS O T B prog w b (exS F G srt m)) (rm : Room A b) {st : PySem.Stmt} {m : MS} (hc : CS T C st m)
    (I : Inv O B Z α σ s.heap) (Fm : Frm O Z α C env ρ s.heap) (hl : ρ.length = C.xs.length) (he : ex1 (evE F G srt n) (exS F G srt n) σ ρ m = some (fl, ρ', σ')) (K : KS O B C env Z α s σ' ρ' fl Q) :
    wpAny (model prog w) A (exec st env) Q E s := by
  revert he
  cases hc with
  | set hx hcp h1 =>
    intro he
    refine bE (show Option.bind _ _ = _ from he) fun q hq he => iE he fun hi he => ?_
    have K := tR (R := fun fl ρ' σ' => KS O B C env Z α s σ' ρ' fl Q) he K
    obtain ⟨g1, g2⟩ := slotOk_of hx
    exact wpAny_Assign_Name (sndE Gd n C _ _ h1 A s env Z α σ q.2 ρ q.1 _ _ rm I Fm hl hq fun v h' tk Z' α' x1 r1 =>
      store_name (s := { s with heap := h', toks := tk }) x1.inv (Fm.ext x1) g1 hi g2 r1 fun h2 tk2 x2 F2 => K h2 tk2 Z' α' .next (x1.toFX.trans x2) F2 (by rw [List.length_set]; exact hl) trivial) (no_swap hcp _ _ _)
  | setc hx hk hsw h1 =>
    intro he
    exact bE (show Option.bind _ _ = _ from he) fun q hq he => iE he fun hi he => snd_setc Gd (sndE Gd) (sndT Gd) rm hx hk hsw h1 I Fm hl hq hi (tR (R := fun fl ρ' σ' => KS O B C env Z α s σ' ρ' fl Q) he K)
  | sets hn hs ho hw h1 =>
    intro he
    exact bE (show Option.bind _ _ = _ from he) fun q hq he => iE he fun hc he => mE he fun ρ1 ha he =>
      snd_sets (sndE Gd n) rm hn hs ho hw h1 I Fm hl hq (fun i hi => of_decide_eq_true (List.all_eq_true.mp (and_l hc) i hi)) (of_decide_eq_true (and_r hc)) ha (tR2 (R := fun fl ρ' σ' => KS O B C env Z α s σ' ρ' fl Q) he K)
  | setItem hx hn hcp h1 h2 => exact fun he => snd_setItem (sndE Gd n) rm hx hn hcp h1 h2 I Fm hl he K
  | app hx hn hm hst h1 => exact fun he => snd_app (sndE Gd n) rm hx hn hm hst h1 I Fm hl he K
  | rem hx hn hm hst h1 => exact fun he => snd_rem (sndE Gd n) rm hx hn hm hst h1 I Fm hl he K
  | cond h0 h1 h2 =>
    intro he
    refine bE (show Option.bind _ _ = _ from he) fun q hq he => bE he fun t ht he => ?_
    refine wpAny_If (sndT Gd n C _ _ h0 A s env Z α σ q.2 ρ q.1 t _ _ rm I Fm hl hq ht fun h' tk Z' α' x1 => ?_)
    cases t with
    | true => exact hS n (Nat.le_refl _) C _ _ h1 A _ env Z' α' q.2 σ' ρ ρ' fl _ _ rm x1.inv (Fm.ext x1) hl he (K.after x1.toFX)
    | false => exact hS n (Nat.le_refl _) C _ _ h2 A _ env Z' α' q.2 σ' ρ ρ' fl _ _ rm x1.inv (Fm.ext x1) hl he (K.after x1.toFX)
  | loop h0 h1 => exact fun he => snd_while Gd n hS rm h0 h1 I Fm hl he K
  | each ht hs hke hi h1 => exact fun he => snd_for Gd n (hS n (Nat.le_refl _)) rm ht hs hke hi h1 I Fm hl he K
  | ret h1 =>
    exact fun he => mE (show Option.map _ _ = _ from he) fun q hq he => wpAny_Return_some (sndE Gd n C _ _ h1 A s env Z α σ q.2 ρ q.1 _ _ rm I Fm hl hq fun v h' tk Z' α' x1 r1 =>
      (tR2 (R := fun fl ρ' σ' => KS O B C env Z α s σ' ρ' fl Q) he K) h' tk Z' α' (.ret v) x1.toFX (Fm.ext x1) hl r1)
  | stop => exact fun he => nomatch he

theorem sndS_all (Gd : Gl O T B prog w b F G srt mg mb) : ∀ n m, m < n → SndS O T B prog w b (exS F G srt m)
  | 0, _, h => absurd h (Nat.not_lt_zero _)
  | n + 1, m, h => by
    rcases Nat.lt_succ_iff_lt_or_eq.mp h with h | h
    · exact sndS_all Gd n m h
    · subst h
      intro C sts ms hC A s env Z α σ σ' ρ ρ' fl Q E rm I Fm hl he K
      cases m with
      | zero => simp [exS] at he
      | succ k =>
        cases hC with
        | nil => exact wpAny_execs_nil (tR (R := fun fl ρ' σ' => KS O B C env Z α s σ' ρ' fl Q) he K s.heap s.toks Z α .next (Ext.refl I) Fm hl trivial)
        | cons h1 h2 =>
          refine bE (show Option.bind _ _ = _ from he) fun q hq he => ?_
          obtain ⟨k1, k2⟩ := iv_flow (y := fun w => (Fl.ret w, q.2.1, q.2.2)) he
          refine wpAny_execs_cons (snd1 Gd k (fun j hj => sndS_all Gd (k + 1) j (Nat.lt_succ_of_le hj)) rm h1 I Fm hl hq fun h' tk Z' α' f' x1 F1 l1 ok => ?_)
          rcases flow_ok ok with ⟨e, rfl⟩ | ⟨v', y, e, rfl, ry⟩
          · exact sndS_all Gd (k + 1) k (Nat.lt_succ_self _) C _ _ h2 A _ env Z' α' _ σ' _ ρ' fl _ _ rm x1.inv F1 l1 (k1 e) (K.after x1)
          · exact tR2 (R := fun fl ρ' σ' => KS O B C env Z α s σ' ρ' fl Q) (k2 _ e) K h' tk Z' α' (.ret v') x1 F1 l1 ry
theorem sndS (Gd : Gl O T B prog w b F G srt mg mb) (n : Nat) : SndS O T B prog w b (exS F G srt n) := sndS_all Gd (n + 1) n (Nat.lt_succ_self _)
end
end Mine


namespace Mine

theorem bindL_not {ko : Str → Option NameKind} : ∀ (bs : List (Str × Value)) (m : Str → Option Value) (x : Str), x ∉ bs.map (·.1) → bindL ko bs m x = m x
  | [], _, _, _ => rfl
  | (n, v) :: r, m, x, h => by
    have h1 : x ≠ n := fun e => h (by simp [e])
    have h2 : x ∉ r.map (·.1) := fun e => h (List.mem_cons_of_mem _ e)
    rw [bindL, bindL_not r _ x h2]
    split
    · simp [h1]
    · rfl
theorem bindC_not {ko : Str → Option NameKind} : ∀ (bs : List (Str × Value)) (m : Str → Option Value) (x : Str), x ∉ bs.map (·.1) → bindC ko bs m x = m x
  | [], _, _, _ => rfl
  | (n, v) :: r, m, x, h => by
    have h1 : x ≠ n := fun e => h (by simp [e])
    have h2 : x ∉ r.map (·.1) := fun e => h (List.mem_cons_of_mem _ e)
    rw [bindC, bindC_not r _ x h2]
    split
    · rfl
    · simp [h1]
theorem zip_fst {α β : Type} : ∀ (xs : List α) (ys : List β), ∀ x ∈ (xs.zip ys).map (·.1), x ∈ xs
  | [], _, x, h => by simp at h
  | _ :: _, [], x, h => by simp at h
  | a :: xs, b :: ys, x, h => by
    simp only [List.zip_cons_cons, List.map_cons, List.mem_cons] at h ⊢
    exact h.imp id (zip_fst xs ys x)
theorem bindL_at {ko : Str → Option NameKind} : ∀ (xs : List Str) (vs : List Value) (m : Str → Option Value) (i : Nat) (x : Str) (v : Value), xs.Nodup → xs[i]? = some x → vs[i]? = some v → ko x = some .local → bindL ko (xs.zip vs) m x = some v
  | [], _, _, i, _, _, _, h, _, _ => by simp at h
  | _ :: _, [], _, i, _, _, _, _, h, _ => by simp at h
  | a :: xs, u :: vs, m, i, x, v, hn, h1, h2, hk => by
    obtain ⟨n1, n2⟩ := List.nodup_cons.mp hn
    rw [List.zip_cons_cons, bindL]
    cases i with
    | zero =>
      cases h1; cases h2
      rw [bindL_not _ _ _ (fun q => n1 (zip_fst _ _ _ q)), if_pos hk]
      simp
    | succ i => exact bindL_at xs vs _ i x v n2 h1 h2 hk
theorem bindC_at {ko : Str → Option NameKind} : ∀ (xs : List Str) (vs : List Value) (m : Str → Option Value) (i : Nat) (x : Str) (v : Value), xs.Nodup → xs[i]? = some x → vs[i]? = some v → ko x ≠ some .local → bindC ko (xs.zip vs) m x = some v
  | [], _, _, i, _, _, _, h, _, _ => by simp at h
  | _ :: _, [], _, i, _, _, _, _, h, _ => by simp at h
  | a :: xs, u :: vs, m, i, x, v, hn, h1, h2, hk => by
    obtain ⟨n1, n2⟩ := List.nodup_cons.mp hn
    rw [List.zip_cons_cons, bindC]
    cases i with
    | zero =>
      cases h1; cases h2
      rw [bindC_not _ _ _ (fun q => n1 (zip_fst _ _ _ q)), if_neg hk]
      simp
    | succ i => exact bindC_at xs vs _ i x v n2 h1 h2 hk

/-- a def's word: the number of its arguments is asked -/
noncomputable def fnChk (np : Nat) (pf : FnT) : FnT := fun ws σ => if ws.length = np then pf ws σ else none

section
variable {O : Nat → D} {T : Tb} {B : Heap} {prog : Program} {w : World} {b : Nat}
variable {F : Nat → FnT} {G : Nat → Option D} {srt : List D → Option (List D)} {mg mb : Str → Option Value}

theorem RWs.get {Z : Zd} {α : List Addr} {vs : List Value} {ws : List W} (h : RWs O Z α vs ws) {i : Nat} {x : W} (e : ws[i]? = some x) : ∃ v, vs[i]? = some v ∧ RW O Z α v x := by
  induction vs generalizing ws i with
  | nil => cases h; cases e
  | cons v vs ih =>
    cases h with
    | cons a r =>
      cases i with
      | zero => cases e; exact ⟨v, rfl, a⟩
      | succ i => exact ih r e

/-- the lists of the call's own are forgotten -/
theorem Ext.drop {X : Addr → Prop} {Z Z' : Zd} {α α' : List Addr} {σ σ' : Store} {h h' : Heap} (I : Inv O B Z α σ h) (e : Ext O B X Z α h Z' α' σ' h') : Ext O B X Z α h Z' α (σ'.take σ.length) h' := by
  obtain ⟨β, rfl, hβ⟩ := e.pre
  have hlen := e.inv.len
  rw [List.length_append, I.len] at hlen
  refine ⟨e.sub, e.new, e.keep, e.live, ⟨[], by simp, fun _ m => nomatch m⟩, ⟨e.inv.base, e.inv.led, ?_, fun i a l q1 q2 => ?_, fun a ha o => e.inv.apart a (List.mem_append_left _ ha) o, (List.nodup_append.mp e.inv.nodup).1⟩⟩
  · rw [List.length_take, I.len]; omega
  · have hi : i < α.length := (List.getElem?_eq_some_iff.mp q1).1
    rw [List.getElem?_take_of_lt (by rw [← I.len]; exact hi)] at q2
    exact e.inv.cell i a l (by rw [List.getElem?_append_left hi]; exact q1) q2

theorem rho0_some {xs : List W} {n i : Nat} {x : W} (e : (xs.map some ++ List.replicate n (none : Option W))[i]? = some (some x)) : xs[i]? = some x := by
  by_cases hi : i < xs.length
  · rw [List.getElem?_append_left (by simpa using hi), List.getElem?_map] at e
    cases q : xs[i]? with
    | none => rw [q] at e; cases e
    | some y => rw [q] at e; cases e; rfl
  · rw [List.getElem?_append_right (by simpa using Nat.le_of_not_lt hi), List.getElem?_replicate] at e
    split at e <;> cases e
theorem slots_some {slots : List Str} {i : Nat} {x : Str} (e : (slots.map some)[i]? = some (some x)) : slots[i]? = some x := by
  rw [List.getElem?_map] at e
  cases q : slots[i]? with
  | none => rw [q] at e; cases e
  | some y => rw [q] at e; cases e; rfl

/-- the frame of a call -/
theorem fn_frame {Z : Zd} {α : List Addr} {σ : Store} {s : Shared} {vs : List Value} {xs : List W} (I : Inv O B Z α σ s.heap) (rv : RWs O Z α vs xs) {a : Addr} {fd : FuncData} {slots : List Str} {np : Nat}
    (hglb : fd.globals = mainGlobals) (hblt : fd.builtins = builtinsNs) (hk : fd.scope.kind = .function) (hnd : slots.Nodup) (hnp : np ≤ slots.length) (hxl : xs.length = np) {h1 : Heap} {tk : Nat}
    (X : InCallC s (callEnvC fd s.heap.objs.size a).locals (bindL (callEnvC fd s.heap.objs.size a).kindOf ((slots.take np).zip vs) fun _ => none) (callEnvC fd s.heap.objs.size a).cells
        (bindC (callEnvC fd s.heap.objs.size a).kindOf ((slots.take np).zip vs) fun _ => none) { s with heap := h1, toks := tk })
    (hfree : ∀ x, fd.scope.names.lookup x ≠ some .free) :
    Frm O Z α ⟨slots.map some, fd.scope.names⟩ (callEnvC fd s.heap.objs.size a) (xs.map some ++ List.replicate (slots.length - xs.length) none) h1 := by
  have zlt : ∀ {a : Addr}, s.heap.objs.size ≤ a → (∀ o, ¬ Z a o) ∧ a ∉ α := fun ha =>
    ⟨fun o z => Nat.lt_irrefl _ (Nat.lt_of_lt_of_le (Heap.lt_size (I.led _ o z)) ha), fun q => by obtain ⟨o, e⟩ := I.live q; exact Nat.lt_irrefl _ (Nat.lt_of_lt_of_le (Heap.lt_size e) ha)⟩
  have hL : (callEnvC fd s.heap.objs.size a).locals = s.heap.objs.size := rfl
  have hnt : (slots.take np).Nodup := hnd.sublist (List.take_sublist _ _)
  have tk_at : ∀ {i : Nat} {x : Str}, i < np → slots[i]? = some x → (slots.take np)[i]? = some x := fun hi e => by rw [List.getElem?_take_of_lt hi]; exact e
  have arg : ∀ {i : Nat} {x : W}, (xs.map some ++ List.replicate (slots.length - xs.length) (none : Option W))[i]? = some (some x) → ∃ v, i < np ∧ vs[i]? = some v ∧ RW O Z α v x := fun e => by
    have e' := rho0_some e
    obtain ⟨v, h1, h2⟩ := rv.get e'
    exact ⟨v, by rw [← hxl]; exact (List.getElem?_eq_some_iff.mp e').1, h1, h2⟩
  refine ⟨hk, hglb, hblt, fun x e => e, fun x e => e, fun x e => e, fun x e => .inr e, ⟨_, X.toInCall.ns, fun i x w e1 e2 e3 => ?_⟩, fun x e => ?_, fun i x w c e1 e2 e3 e4 => ?_, (zlt (Nat.le_of_eq hL.symm)).1, (zlt (Nat.le_of_eq hL.symm)).2, fun x c e => ?_, fun x y c e1 e2 => ?_, fun i j x e1 e2 => ?_⟩
  · obtain ⟨v, h1, h2, h3⟩ := arg e2
    exact ⟨v, bindL_at _ vs _ i x v hnt (tk_at h1 (slots_some e1)) h2 e3, h3⟩
  · rcases e with e | e
    · exact Option.isSome_iff_exists.mp (PySem.W.cellsFrom_some _ _ _ (.inl e))
    · exact absurd e (hfree x)
  · obtain ⟨v, h1, h2, h3⟩ := arg e2
    have e3' : fd.scope.names.lookup x = some .cell := e3.resolve_right (hfree x)
    have q := X.cell x c e4
    rw [bindC_at _ vs _ i x v hnt (tk_at h1 (slots_some e1)) h2 (by show fd.scope.names.lookup x ≠ _; rw [e3']; decide)] at q
    exact ⟨v, q, h3⟩
  · have q := X.above x c (mem_of_lookup e)
    have q' := zlt (Nat.le_of_lt q)
    exact ⟨q'.1, q'.2, Nat.ne_of_gt q, _, X.cell x c e⟩
  · exact name_of_addr X.apart (mem_of_lookup e1) (mem_of_lookup e2)
  · have q1 := slots_some e1
    have q2 := slots_some e2
    obtain ⟨h1, h1'⟩ := List.getElem?_eq_some_iff.mp q1
    obtain ⟨h2, h2'⟩ := List.getElem?_eq_some_iff.mp q2
    exact (List.getElem_inj hnd).mp (h1'.trans h2'.symm)

theorem Room.deeper {A : Around} {n : Nat} {env : Env} (h : Room A (n + 1)) : Room (A.deeper env) n :=
  ⟨by have := h.depth; show A.depth + 1 + n < _; omega, by have := h.units; show A.units + 3 + 4 * n + 100 < _; omega, h.handled⟩

theorem fn_ok (Gd : Gl O T B prog w b F G srt mg mb) {a : Addr} {o : Obj} {fd : FuncData} {body : List PySem.Stmt} {slots : List Str} {np n : Nat} {ms : List MS} (ho : B.get? a = some o) (hd : o.data = .func fd) (hbody : fd.body = .stmts body) (hcd : B.CodeRec fd.code fd.qualname)
    (hclo : fd.closure = []) (hglb : fd.globals = mainGlobals) (hblt : fd.builtins = builtinsNs) (hbind : ∀ vs : List Value, vs.length = np → bindArgs fd ⟨vs, []⟩ = pure ((slots.take np).zip vs)) (hco : fd.scope.isCoroutine = false) (hgen : fd.scope.isGenerator = false) (hk : fd.scope.kind = .function)
    (hC : CSs T ⟨slots.map some, fd.scope.names⟩ body ms) (hnd : slots.Nodup) (hnp : np ≤ slots.length) (hfree : ∀ x, fd.scope.names.lookup x ≠ some .free) (hpar : ∀ x ∈ slots.take np, fd.scope.names.lookup x = some .local ∨ fd.scope.names.lookup x = some .cell) :
    FnOk O B prog w (b + 1) a (fnChk np (exFn F G srt n slots.length ms)) := by
  intro A s Z α σ σ' vs xs r R rm I rv he K
  unfold fnChk at he
  split at he
  · rename_i hxl
    have hvl : vs.length = np := by rw [rv.length, hxl]
    unfold exFn at he
    obtain ⟨q, hq, he⟩ := b2 he
    obtain ⟨fl, ρ', σ1⟩ := q
    have cellSome : ∀ x, fd.scope.names.lookup x = some .cell → ((cellsFrom (s.heap.objs.size + 1) fd.scope.names []).lookup x).isSome = true := fun x e => PySem.W.cellsFrom_some _ _ _ (.inl e)
    refine codeAny_call_cells (fd := fd) (vals := vs) (by have := rm.depth; omega) (I.led _ _ (I.base _ _ ho)) hd (Gd.nl.keeps fun a o e => I.led a o (I.base a o e)) (hcd.keeps fun a o e => I.led a o (I.base a o e)) hbody (hbind vs hvl) hclo (fun x hx => ?_) (fun s₁ X => ?_) hco hgen hk
    · have : x.1 ∈ slots.take np := zip_fst _ vs _ (List.mem_map_of_mem hx)
      rcases hpar _ this with h | h
      · exact .inl h
      · exact .inr ⟨h, cellSome _ h⟩
    · obtain ⟨h1, tk1, rfl⟩ := X.toInCall.same
      have keep1 : ∀ b o, s.heap.get? b = some o → h1.get? b = some o := X.toInCall.keep
      have x0 : Ext O B (fun a => s.heap.get? a = none) Z α s.heap Z α σ h1 := Ext.of_keeps I keep1
      have fr := fn_frame I rv hglb hblt hk hnd hnp hxl X hfree
      have fresh : ∀ c, s.heap.objs.size ≤ c → s.heap.get? c = none := fun c hc => by
        cases e : s.heap.get? c with
        | none => rfl
        | some o => exact absurd (Heap.lt_size e) (Nat.not_lt.mpr hc)
      refine sndS Gd n _ body ms hC _ { s with heap := h1, toks := tk1 } _ Z α σ σ1 _ ρ' fl _ _ rm.deeper x0.inv fr (by simp; omega) hq fun h' tk' Z' α' f x1 F1 hl1 hf => ?_
      have x1' : Ext O B (fun a => s.heap.get? a = none) Z α h1 Z' α' σ1 h' := x1.weaken fun c o _ q => by
        rcases q with q | ⟨x, _, q⟩
        · rw [q]; exact fresh _ (Nat.le_refl _)
        · exact fresh _ (Nat.le_of_lt (X.above x c (mem_of_lookup q)))
      have x2 : Ext O B (fun _ => False) Z α s.heap Z' α' σ1 h' := (x0.trans x1').weaken fun c o e q => not_some_none q e
      have x3 := x2.drop I
      rcases flow_ok hf with ⟨rfl, rfl⟩ | ⟨v, x, rfl, rfl, rx⟩
      · cases he
      · cases rx with
        | d rd =>
          simp only [Option.some.injEq, Prod.mk.injEq] at he
          obtain ⟨rfl, rfl⟩ := he
          exact K v h' tk' Z' x3 rd
        | @m i c hi =>
          simp only at he
          split at he
          · rename_i hge
            obtain ⟨l, hl, he⟩ := m2 he
            simp only [Prod.mk.injEq] at he
            obtain ⟨rfl, rfl⟩ := he
            obtain ⟨us, k, g, ru⟩ := x2.inv.cell i c l hi hl
            obtain ⟨β, rfl, hβ⟩ := x2.pre
            rw [List.getElem?_append_right (by rw [I.len]; exact hge)] at hi
            have hcβ := List.mem_of_getElem? hi
            have hn : s.heap.get? c = none := (hβ c hcβ).elim id False.elim
            have na : c ∉ α := fun q => by obtain ⟨o, e⟩ := I.live q; exact not_some_none hn e
            exact K _ h' tk' _ (x3.tell g na hn) (.lst (.inr ⟨rfl, rfl⟩) (ru.mono fun _ _ z => .inl z))
          · cases he
  · cases he
end
end Mine


namespace Mine

noncomputable def ms_gcd : List MS :=
  [.sets true [0, 1] [(.blt .abs [(.var 0)]), (.blt .abs [(.var 1)])],
    .loop (.cmp .ne (.var 1) (.int 0)) [.sets true [0, 1] [(.var 1), (.bin .mod (.var 0) (.var 1))]],
    .ret (.var 0)]
noncomputable def sl_gcd : List Str := ["a", "b"]
noncomputable def ms_bits_of : List MS :=
  [.set 1 (.int 0),
    .each [2] .val [(.tup [(.int 4096), (.int 64), (.int 1)])] [.set 3 (.bin .pow (.int 2) (.var 2)),
      .loop (.cmp .ge (.var 0) (.var 3)) [.sets true [0, 1] [(.bin .div (.var 0) (.var 3)), (.bin .add (.var 1) (.var 2))]]],
    .ret (.bin .add (.var 1) (.var 0))]
noncomputable def sl_bits_of : List Str := ["n", "found", "many", "step"]
noncomputable def ms_rat : List MS :=
  [.cond (.cmp .eq (.var 1) (.int 0)) [.stop] [],
    .set 2 (.ite (.cmp .gt (.var 1) (.int 0)) (.call 0 [(.var 0), (.var 1)]) (.bin .sub (.int 0) (.call 0 [(.var 0), (.var 1)]))),
    .ret (.tup [(.bin .div (.var 0) (.var 2)), (.bin .div (.var 1) (.var 2))])]
noncomputable def sl_rat : List Str := ["top", "bottom", "g"]
noncomputable def ms_radd : List MS :=
  [.ret (.call 2 [(.bin .add (.bin .mul (.idx (.var 0) (.int 0)) (.idx (.var 1) (.int 1))) (.bin .mul (.idx (.var 1) (.int 0)) (.idx (.var 0) (.int 1)))), (.bin .mul (.idx (.var 0) (.int 1)) (.idx (.var 1) (.int 1)))])]
noncomputable def sl_radd : List Str := ["a", "b"]
noncomputable def ms_rsub : List MS :=
  [.ret (.call 2 [(.bin .sub (.bin .mul (.idx (.var 0) (.int 0)) (.idx (.var 1) (.int 1))) (.bin .mul (.idx (.var 1) (.int 0)) (.idx (.var 0) (.int 1)))), (.bin .mul (.idx (.var 0) (.int 1)) (.idx (.var 1) (.int 1)))])]
noncomputable def sl_rsub : List Str := ["a", "b"]
noncomputable def ms_rmul : List MS :=
  [.ret (.call 2 [(.bin .mul (.idx (.var 0) (.int 0)) (.idx (.var 1) (.int 0))), (.bin .mul (.idx (.var 0) (.int 1)) (.idx (.var 1) (.int 1)))])]
noncomputable def sl_rmul : List Str := ["a", "b"]
noncomputable def ms_rdiv : List MS :=
  [.ret (.call 2 [(.bin .mul (.idx (.var 0) (.int 0)) (.idx (.var 1) (.int 1))), (.bin .mul (.idx (.var 0) (.int 1)) (.idx (.var 1) (.int 0)))])]
noncomputable def sl_rdiv : List Str := ["a", "b"]
noncomputable def ms_is_vast : List MS :=
  [.set 1 (.blt .max [(.blt .abs [(.idx (.var 0) (.int 0))]), (.idx (.var 0) (.int 1))]),
    .ret (.and (.cmp .ge (.var 1) (.bin .pow (.int 2) (.int 64))) (.cmp .gt (.call 1 [(.var 1)]) (.glob 2)))]
noncomputable def sl_is_vast : List Str := ["a", "greatest"]
noncomputable def ms_cut : List MS :=
  [.ret (.bin .add (.blt .list [(.upto (.var 0) (.var 1))]) (.bin .mul (.lst [(.glob 0)]) (.bin .sub (.var 1) (.blt .len [(.var 0)]))))]
noncomputable def sl_cut : List Str := ["a", "order"]
noncomputable def ms_let : List MS :=
  [.cond (.call 7 [(.var 0)]) [.stop] [],
    .ret (.var 0)]
noncomputable def sl_let : List Str := ["number"]
noncomputable def ms_mixed : List MS :=
  [.set 3 (.glob 0),
    .each [4] .range [(.bin .add (.var 2) (.int 1))] [.cond (.and (.cmp .ne (.idx (.var 0) (.var 4)) (.glob 0)) (.cmp .ne (.idx (.var 1) (.bin .sub (.var 2) (.var 4))) (.glob 0))) [.set 3 (.call 3 [(.var 3), (.call 5 [(.idx (.var 0) (.var 4)), (.idx (.var 1) (.bin .sub (.var 2) (.var 4)))])])] []],
    .ret (.var 3)]
noncomputable def sl_mixed : List Str := ["a", "b", "at", "found", "spot"]
noncomputable def ms_smul : List MS :=
  [.ret (.comp (.call 9 [(.call 10 [(.var 0), (.var 1), (.var 2)])]) false .range [(.blt .min [(.blt .len [(.var 0)]), (.blt .len [(.var 1)])])] none)]
noncomputable def sl_smul : List Str := ["a", "b"]
noncomputable def ms_sinverse : List MS :=
  [.cond (.and (.cmp .gt (.blt .len [(.var 0)]) (.int 0)) (.cmp .eq (.idx (.var 0) (.int 0)) (.glob 0))) [.stop] [],
    .set 1 (.mlst []),
    .each [2] .range [(.blt .len [(.var 0)])] [.set 3 (.ite (.cmp .eq (.var 2) (.int 0)) (.glob 1) (.glob 0)),
      .each [4] .range [(.int 1), (.bin .add (.var 2) (.int 1))] [.set 3 (.call 4 [(.var 3), (.call 5 [(.idx (.var 0) (.var 4)), (.idx (.var 1) (.bin .sub (.var 2) (.var 4)))])])],
      .app 1 (.call 9 [(.call 6 [(.var 3), (.idx (.var 0) (.int 0))])])],
    .ret (.var 1)]
noncomputable def sl_sinverse : List Str := ["a", "found", "at", "total", "spot"]
noncomputable def ms_swhole_power : List MS :=
  [.set 2 (.ite (.cmp .lt (.var 1) (.int 0)) (.call 12 [(.var 0)]) (.var 0)),
    .sets true [3, 4] [(.call 8 [(.lst [(.glob 1)]), (.blt .len [(.var 0)])]), (.blt .abs [(.var 1)])],
    .loop (.cmp .gt (.var 4) (.int 0)) [.cond (.cmp .eq (.bin .mod (.var 4) (.int 2)) (.int 1)) [.set 3 (.call 11 [(.var 3), (.var 2)])] [],
      .set 4 (.bin .div (.var 4) (.int 2)),
      .set 2 (.ite (.cmp .gt (.var 4) (.int 0)) (.call 11 [(.var 2), (.var 2)]) (.var 2))],
    .ret (.var 3)]
noncomputable def sl_swhole_power : List Str := ["a", "many", "base", "found", "left"]
noncomputable def ms_law_draw : List MS :=
  [.set 2 (.idx (.var 0) (.int 1)),
    .setItem 0 (.int 1) (.bin .add (.var 2) (.int 1)),
    .cond (.cmp .lt (.var 2) (.blt .len [(.idx (.var 0) (.int 0))])) [.ret (.bin .mod (.blt .abs [(.idx (.idx (.var 0) (.int 0)) (.var 2))]) (.var 1))] [],
    .ret (.bin .mod (.idx (.tup [(.int 0), (.int 2), (.int 0), (.int 0), (.int 1), (.int 0), (.int 0), (.int 0)]) (.bin .mod (.var 2) (.int 8))) (.var 1))]
noncomputable def sl_law_draw : List Str := ["pool", "many", "spot"]
noncomputable def ms_law_row : List MS :=
  [.set 2 (.mrep (.lst [(.tup [(.int 0), (.int 1)])]) (.var 1)),
    .each [3, 4] .val [(.var 0)] [.cond (.cmp .lt (.var 3) (.var 1)) [.setItem 2 (.var 3) (.tup [(.var 4), (.int 1)])] []],
    .ret (.var 2)]
noncomputable def sl_law_row : List Str := ["places", "size", "found", "place", "number"]
noncomputable def ms_law_product : List MS :=
  [.set 2 (.call 15 [(.lst [(.tup [(.int 0), (.int 1)])]), (.var 1)]),
    .each [3] .val [(.var 0)] [.set 2 (.call 11 [(.var 2), (.var 3)])],
    .ret (.var 2)]
noncomputable def sl_law_product : List Str := ["rows", "size", "found", "row"]
noncomputable def ms_law_lots : List MS :=
  [.cond (.cmp .eq (.var 0) (.int 0)) [.ret (.lst [(.lst [])])] [],
    .set 2 (.lst []),
    .each [3, 4] .enum [(.var 1)] [.cond (.cmp .le (.var 4) (.var 0)) [.set 2 (.bin .add (.var 2) (.comp (.bin .add (.lst [(.var 4)]) (.var 5)) false .val [(.call 17 [(.bin .sub (.var 0) (.var 4)), (.from' (.var 1) (.var 3))])] none))] []],
    .ret (.var 2)]
noncomputable def sl_law_lots : List Str := ["n", "parts", "found", "at", "part"]
noncomputable def ms_law_joined : List MS :=
  [.sets true [2, 3] [(.mcopy (.var 0)), (.int 0)],
    .loop (.cmp .lt (.var 3) (.blt .len [(.var 2)])) [.sets false [4, 3] [(.idx (.var 2) (.var 3)), (.bin .add (.var 3) (.int 1))],
      .cond (.cmp .ge (.blt .len [(.comp (.int 1) false .val [(.var 2)] (some (.cmp .eq (.var 6) (.var 4))))]) (.var 1)) [.each [5] .range [(.var 1)] [.rem 2 (.var 4)],
        .app 2 (.bin .mul (.var 1) (.var 4)),
        .set 3 (.int 0)] []],
    .ret (.rev (.blt .sorted [(.var 2)]))]
noncomputable def sl_law_joined : List Str := ["lot", "d", "found", "at", "part", "turn"]
noncomputable def ms_law_often : List MS :=
  [.ret (.blt .max [(.bin .add (.lst [(.int 0)]) (.comp (.blt .len [(.comp (.int 1) false .val [(.var 0)] (some (.cmp .eq (.var 2) (.var 1))))]) false .val [(.var 0)] none))])]
noncomputable def sl_law_often : List Str := ["lot"]
noncomputable def ms_law_side : List MS :=
  [.ret (.blt .len [(.comp (.int 1) true .enum [(.var 0)] (some (.cmp .gt (.var 2) (.var 1))))])]
noncomputable def sl_law_side : List Str := ["lot"]
noncomputable def ms_law_mirror : List MS :=
  [.ret (.comp (.blt .len [(.comp (.int 1) false .val [(.var 0)] (some (.cmp .gt (.var 2) (.var 1))))]) false .range [(.idx (.var 0) (.int 0))] none)]
noncomputable def sl_law_mirror : List Str := ["lot"]
noncomputable def ms_law : List MS :=
  [.set 1 (.mlst [(.comp (.blt .int [(.var 16)]) false .val [(.upto (.var 0) (.int 8))] none), (.int 0)]),
    .sets false [2, 3, 4] [(.bin .add (.int 2) (.call 14 [(.var 1), (.int 2)])), (.bin .add (.int 4) (.call 14 [(.var 1), (.int 4)])), (.bin .add (.int 1) (.call 14 [(.var 1), (.int 2)]))],
    .sets true [5, 6] [(.lst []), (.mlst [])],
    .each [7] .val [(.comp (.var 16) false .range [(.int 1), (.bin .add (.var 3) (.int 1))] (some (.cmp .ne (.bin .mod (.var 16) (.var 2)) (.int 0))))] [.set 8 (.bin .mul (.idx (.tup [(.int 1), (.var 2), (.bin .add (.var 3) (.int 1))]) (.call 14 [(.var 1), (.int 3)])) (.var 7)),
      .set 5 (.bin .add (.var 5) (.ite (.cmp .le (.var 8) (.var 3)) (.lst [(.var 8)]) (.lst []))),
      .loop (.cmp .le (.var 8) (.var 3)) [.app 6 (.var 8),
        .set 8 (.bin .mul (.var 8) (.var 2))]],
    .set 9 (.call 12 [(.call 16 [(.comp (.call 15 [(.lst [(.tup [(.int 0), (.int 1)]), (.tup [(.var 16), (.neg (.int 1))])]), (.bin .add (.var 3) (.int 1))]) false .val [(.var 5)] none), (.bin .add (.var 3) (.int 1))])]),
    .set 10 (.call 16 [(.comp (.call 15 [(.comp (.tup [(.bin .mul (.var 16) (.var 17)), (.int 1)]) false .range [(.var 2)] none), (.bin .add (.var 3) (.int 1))]) false .val [(.var 6)] none), (.bin .add (.var 3) (.int 1))]),
    .set 11 (.call 17 [(.var 3), (.rev (.blt .sorted [(.var 5)]))]),
    .set 12 (.comp (.var 16) false .val [(.call 17 [(.var 3), (.rev (.blt .sorted [(.var 6)]))])] (some (.cmp .lt (.call 19 [(.var 16)]) (.var 2)))),
    .cond (.or (.cmp .ne (.var 9) (.var 10)) (.or (.cmp .ne (.idx (.var 9) (.var 3)) (.tup [(.blt .len [(.var 11)]), (.int 1)])) (.cmp .ne (.blt .len [(.var 12)]) (.blt .len [(.var 11)])))) [.ret (.bool false)] [],
    .cond (.cmp .ne (.blt .sorted [(.comp (.call 18 [(.var 16), (.var 2)]) false .val [(.var 11)] none)]) (.blt .sorted [(.var 12)])) [.ret (.bool false)] [],
    .set 13 (.call 17 [(.var 3), (.comp (.bin .sub (.var 3) (.var 16)) false .range [(.var 3)] none)]),
    .set 14 (.call 16 [(.comp (.call 15 [(.lst [(.tup [(.int 0), (.int 1)]), (.tup [(.var 16), (.neg (.int 1))])]), (.bin .add (.var 3) (.int 1))]) false .range [(.int 1), (.bin .add (.var 4) (.int 1))] none), (.bin .add (.var 3) (.int 1))]),
    .cond (.cmp .ne (.idx (.call 13 [(.var 14), (.bin .sub (.int 0) (.int 2))]) (.bin .sub (.var 3) (.bin .mul (.var 4) (.var 4)))) (.tup [(.blt .len [(.comp (.var 16) false .val [(.var 13)] (some (.cmp .eq (.call 20 [(.var 16)]) (.var 4))))]), (.int 1)])) [.ret (.bool false)] [],
    .set 15 (.call 16 [(.comp (.call 15 [(.lst [(.tup [(.int 0), (.int 1)]), (.tup [(.var 16), (.int 1)])]), (.bin .add (.var 3) (.int 1))]) false .range [(.int 1), (.bin .add (.var 3) (.int 1)), (.int 2)] none), (.bin .add (.var 3) (.int 1))]),
    .ret (.cmp .eq (.idx (.var 15) (.var 3)) (.tup [(.blt .len [(.comp (.var 16) false .val [(.var 13)] (some (.cmp .eq (.call 21 [(.var 16)]) (.var 16))))]), (.int 1)]))]
noncomputable def sl_law : List Str := ["script", "pool", "d", "n", "k", "first", "every", "number", "begin", "one", "other", "lots", "spare", "whole", "box", "odd"]
noncomputable def T : Tb := ⟨fun i => ((["R0", "R1", "MOST_BITS"] : List Str)[i]?).getD "", fun i => ((["gcd", "bits_of", "rat", "radd", "rsub", "rmul", "rdiv", "is_vast", "cut", "let", "mixed", "smul", "sinverse", "swhole_power", "_law_draw", "_law_row", "_law_product", "_law_lots", "_law_joined", "_law_often", "_law_side", "_law_mirror"] : List Str)[i]?).getD ""⟩
end Mine


namespace Mine
/-! the same evaluator, in small pieces: for the kernel -/
section
variable (F : Nat → FnT) (G : Nat → Option D) (srt : List D → Option (List D))

noncomputable def fI (i : Int) (k : Int → Option (W × Store)) : Option (W × Store) := match i with
  | .ofNat n => (match n with
    | 0 => k (.ofNat 0)
    | m + 1 => k (.ofNat (m + 1)))
  | .negSucc n => (match n with
    | 0 => k (.negSucc 0)
    | m + 1 => k (.negSucc (m + 1)))
theorem fI_eq (i : Int) (k : Int → Option (W × Store)) : fI i k = k i := by
  unfold fI
  cases i with
  | ofNat n => cases n <;> rfl
  | negSucc n => cases n <;> rfl
noncomputable def fD (d : D) (σ : Store) : Option (W × Store) := match d with
  | .int i => fI i fun j => some (.d (.int j), σ)
  | .bool b => (match b with
    | true => some (.d (.bool true), σ)
    | false => some (.d (.bool false), σ))
  | x => some (.d x, σ)
theorem fD_eq (d : D) (σ : Store) : fD d σ = some (.d d, σ) := by
  unfold fD
  cases d <;> try rfl
  · exact fI_eq _ _
  · rename_i b; cases b <;> rfl

/-! lists, by matching -/
noncomputable def evLF (r : EvT) (ρ : Rho) : Store → List ME → Option (List W × Store)
  | σ, [] => some ([], σ)
  | σ, e :: es => match r σ ρ e with
    | some (x, σ1) => (match evLF r ρ σ1 es with
      | some (xs, σ2) => some (x :: xs, σ2)
      | none => none)
    | none => none
theorem evLF_eq (r : EvT) (ρ : Rho) : ∀ (es : List ME) (σ : Store), evL r ρ σ es = evLF r ρ σ es
  | [], σ => rfl
  | e :: es, σ => by
    simp only [evL, evLF]
    cases r σ ρ e with
    | none => rfl
    | some p =>
      obtain ⟨x, σ1⟩ := p
      simp only [Option.bind_some, evLF_eq r ρ es σ1]
      cases evLF r ρ σ1 es with
      | none => rfl
      | some q => rfl
noncomputable def wDsF : List W → Option (List D)
  | [] => some []
  | .d x :: r => (match wDsF r with
    | some y => some (x :: y)
    | none => none)
  | .m _ :: _ => none
theorem wDsF_eq : ∀ l : List W, wDs l = wDsF l
  | [] => rfl
  | .d x :: r => by simp only [wDs, wDsF, wD, Option.bind_some, wDsF_eq r]; cases wDsF r <;> rfl
  | .m _ :: _ => rfl
noncomputable def evIF (r : EvT) (σ : Store) (ρ : Rho) (k : IK) (args : List ME) : Option (List D × Option (Nat × List D) × Store) :=
  match evLF r ρ σ args with
  | some (ws, σ1) => (match k with
    | .val => (match ws with
      | [.d (.lst l)] => if l.length ≤ big then some (l, none, σ1) else none
      | [.m i] => (match σ1[i]? with
        | some l => if l.length ≤ big then some (l, some (i, l), σ1) else none
        | none => none)
      | _ => none)
    | .enum => (match ws with
      | [.d (.lst l)] => if l.length ≤ big then some (dEnum 0 l, none, σ1) else none
      | _ => none)
    | .range => (match wDsF ws with
      | some ds => (match dRange ds with
        | some l => some (l, none, σ1)
        | none => none)
      | none => none))
  | none => none
theorem evIF_eq (r : EvT) (σ : Store) (ρ : Rho) (k : IK) (args : List ME) : evI r σ ρ k args = evIF r σ ρ k args := by
  unfold evI evIF
  rw [evLF_eq]
  cases evLF r ρ σ args with
  | none => rfl
  | some p =>
    obtain ⟨ws, σ1⟩ := p
    simp only [Option.bind_some]
    cases k with
    | range =>
      simp only [wDsF_eq]
      cases wDsF ws with
      | none => rfl
      | some ds => simp only [Option.bind_some]; cases dRange ds <;> rfl
    | val =>
      cases ws with
      | nil => rfl
      | cons a t =>
        cases t with
        | nil =>
          cases a with
          | d x => cases x <;> rfl
          | m i => simp only; cases σ1[i]? <;> rfl
        | cons b u => cases a with
          | d x => cases x <;> rfl
          | m i => rfl
    | enum =>
      cases ws with
      | nil => rfl
      | cons a t =>
        cases t with
        | nil =>
          cases a with
          | d x => cases x <;> rfl
          | m i => rfl
        | cons b u => cases a with
          | d x => cases x <;> rfl
          | m i => rfl
noncomputable def condF (r : EvT) (ρ : Rho) (σ : Store) (cond : Option ME) : Option (Bool × Store) := match cond with
  | none => some (true, σ)
  | some c => (match r σ ρ c with
    | some (.d (.bool b), σ1) => some (b, σ1)
    | _ => none)
noncomputable def evCF (r : EvT) (ρ : Rho) (elt : ME) (two : Bool) (st : Option (Nat × List D)) (cond : Option ME) : Store → List D → Option (List D × Store)
  | σ, [] => some ([], σ)
  | σ, x :: xs => match binds1 two x with
    | some bs => (match condF r (ρ ++ bs) σ cond with
      | some (true, σ1) => (match r σ1 (ρ ++ bs) elt with
        | some (.d y, σ2) => if stays st σ2 then (match evCF r ρ elt two st cond σ2 xs with
          | some (ys, σ3) => some (y :: ys, σ3)
          | none => none) else none
        | _ => none)
      | some (false, σ1) => if stays st σ1 then evCF r ρ elt two st cond σ1 xs else none
      | none => none)
    | none => none
theorem evCF_eq (r : EvT) (ρ : Rho) (elt : ME) (two : Bool) (st : Option (Nat × List D)) (cond : Option ME) : ∀ (l : List D) (σ : Store), evC r ρ elt two st cond σ l = evCF r ρ elt two st cond σ l
  | [], σ => rfl
  | x :: xs, σ => by
    simp only [evC, evCF]
    cases binds1 two x with
    | none => rfl
    | some bs =>
      simp only [Option.bind_some]
      have hc : (match cond with
          | none => some (true, σ)
          | some c => (r σ (ρ ++ bs) c).bind fun p => (asTru p.1).map fun b => (b, p.2)) = condF r (ρ ++ bs) σ cond := by
        unfold condF
        cases cond with
        | none => rfl
        | some c =>
          simp only
          cases r σ (ρ ++ bs) c with
          | none => rfl
          | some p => obtain ⟨y, σ1⟩ := p; cases y with
            | m i => rfl
            | d y => cases y <;> rfl
      refine Eq.trans (congrArg (fun t => Option.bind t _) hc) ?_
      cases condF r (ρ ++ bs) σ cond with
      | none => rfl
      | some p =>
        obtain ⟨b, σ1⟩ := p
        cases b with
        | false =>
          simp only [Option.bind_some, Bool.false_eq_true, if_false]
          rw [evCF_eq r ρ elt two st cond xs σ1]
        | true =>
          simp only [Option.bind_some, if_true]
          cases r σ1 (ρ ++ bs) elt with
          | none => rfl
          | some q =>
            obtain ⟨y, σ2⟩ := q
            cases y with
            | m i => rfl
            | d y =>
              simp only [Option.bind_some, wD]
              split
              · rw [evCF_eq r ρ elt two st cond xs σ2]
                cases evCF r ρ elt two st cond σ2 xs <;> rfl
              · rfl
noncomputable def exEachF (r : ExT) (tg : List Nat) (b : List MS) (st : Option (Nat × List D)) : Store → Rho → List D → Option (Fl × Rho × Store)
  | σ, ρ, [] => some (.next, ρ, σ)
  | σ, ρ, x :: xs => match bindT ρ tg x with
    | some ρ1 => (match r σ ρ1 b with
      | some (.next, ρ2, σ2) => if stays st σ2 then exEachF r tg b st σ2 ρ2 xs else none
      | some (.ret w, ρ2, σ2) => some (.ret w, ρ2, σ2)
      | none => none)
    | none => none
theorem exEachF_eq (r : ExT) (tg : List Nat) (b : List MS) (st : Option (Nat × List D)) : ∀ (l : List D) (σ : Store) (ρ : Rho), exEach r tg b st σ ρ l = exEachF r tg b st σ ρ l
  | [], σ, ρ => rfl
  | x :: xs, σ, ρ => by
    simp only [exEach, exEachF]
    cases bindT ρ tg x with
    | none => rfl
    | some ρ1 =>
      simp only [Option.bind_some]
      cases r σ ρ1 b with
      | none => rfl
      | some p =>
        obtain ⟨f, ρ2, σ2⟩ := p
        cases f with
        | next => simp only [Option.bind_some]; rw [exEachF_eq r tg b st xs σ2 ρ2]
        | ret w => rfl
noncomputable def kVar (σ : Store) (ρ : Rho) (i : Nat) : Option (W × Store) := match ρ[i]? with
  | some (some w) => some (w, σ)
  | _ => none
noncomputable def kNeg (r : EvT) (σ : Store) (ρ : Rho) (a : ME) : Option (W × Store) := match r σ ρ a with
  | some (.d (.int i), σ1) => fI (-i) fun j => some (.d (.int j), σ1)
  | _ => none
noncomputable def k2 (r : EvT) (σ : Store) (ρ : Rho) (a b : ME) (k : W → W → Store → Option (W × Store)) : Option (W × Store) := match r σ ρ a with
  | some (x, σ1) => (match r σ1 ρ b with
    | some (y, σ2) => k x y σ2
    | none => none)
  | none => none
noncomputable def kBin1 (o : Bop) (x y : W) (σ : Store) : Option (W × Store) := match x, y with
  | .d x, .d y => (match dBin o x y with
    | some z => fD z σ
    | none => none)
  | _, _ => none
noncomputable def kCmp1 (o : Cop) (x y : W) (σ : Store) : Option (W × Store) := match x, y with
  | .d x, .d y => (match dCmp o x y with
    | some true => some (.d (.bool true), σ)
    | some false => some (.d (.bool false), σ)
    | none => none)
  | _, _ => none
noncomputable def kAnd (r : EvT) (σ : Store) (ρ : Rho) (a b : ME) : Option (W × Store) := match r σ ρ a with
  | some (.d (.bool x), σ1) => if x then r σ1 ρ b else some (.d (.bool false), σ1)
  | _ => none
noncomputable def kOr (r : EvT) (σ : Store) (ρ : Rho) (a b : ME) : Option (W × Store) := match r σ ρ a with
  | some (.d (.bool x), σ1) => if x then some (.d (.bool true), σ1) else r σ1 ρ b
  | _ => none
noncomputable def kIte (r : EvT) (σ : Store) (ρ : Rho) (c a b : ME) : Option (W × Store) := match r σ ρ c with
  | some (.d (.bool x), σ1) => if x then r σ1 ρ a else r σ1 ρ b
  | _ => none
noncomputable def kI (l : List D) (k : Int) (σ : Store) : Option (W × Store) := match dIdx l k with
  | some d => some (.d d, σ)
  | none => none
noncomputable def kIdx1 (x y : W) (σ : Store) : Option (W × Store) := match x, y with
  | .d (.tup l), .d (.int k) => kI l k σ
  | .d (.lst l), .d (.int k) => kI l k σ
  | .m j, .d (.int k) => (match σ[j]? with
    | some l => kI l k σ
    | none => none)
  | _, _ => none
noncomputable def kTail (f : Nat → List D → List D) (x y : W) (σ : Store) : Option (W × Store) := match y with
  | .d (.int k) => (match wList σ x with
    | some l => if 0 ≤ k && small k && decide (l.length ≤ big) then some (.d (.lst (f k.toNat l)), σ) else none
    | none => none)
  | _ => none
noncomputable def kRev (r : EvT) (σ : Store) (ρ : Rho) (a : ME) : Option (W × Store) := (r σ ρ a).bind fun p => (wList p.2 p.1).bind fun l => if l.length ≤ big then some (.d (.lst l.reverse), p.2) else none
noncomputable def kSeq (f : List D → Store → W × Store) (r : EvT) (σ : Store) (ρ : Rho) (es : List ME) : Option (W × Store) := match evLF r ρ σ es with
  | some (ws, σ1) => (match wDsF ws with
    | some ds => if ds.length ≤ big then some (f ds σ1) else none
    | none => none)
  | none => none
noncomputable def kMrep (r : EvT) (σ : Store) (ρ : Rho) (a b : ME) : Option (W × Store) := (r σ ρ a).bind fun p => (r p.2 ρ b).bind fun q => (wD p.1).bind fun x => (wD q.1).bind fun y => match x, y with
      | .lst l, .int k => (dBin .mul (.lst l) (.int k)).bind fun z => (match z with
        | .lst l' => some (.m q.2.length, q.2 ++ [l'])
        | _ => none)
      | _, _ => none
noncomputable def kMcopy (r : EvT) (σ : Store) (ρ : Rho) (a : ME) : Option (W × Store) := (r σ ρ a).bind fun p => (wList p.2 p.1).bind fun l => if l.length ≤ big then some (.m p.2.length, p.2 ++ [l]) else none
noncomputable def kCall (r : EvT) (σ : Store) (ρ : Rho) (f : Nat) (es : List ME) : Option (W × Store) := match evLF r ρ σ es with
  | some (ws, σ1) => (match F f ws σ1 with
    | some (d, σ2) => fD d σ2
    | none => none)
  | none => none
noncomputable def kBlt (r : EvT) (σ : Store) (ρ : Rho) (b : Blt) (es : List ME) : Option (W × Store) := match evLF r ρ σ es with
  | some (ws, σ1) => (match evBlt srt σ1 b ws with
    | some d => fD d σ1
    | none => none)
  | none => none
noncomputable def kComp (r : EvT) (σ : Store) (ρ : Rho) (elt : ME) (two : Bool) (k : IK) (args : List ME) (cond : Option ME) : Option (W × Store) := match evIF r σ ρ k args with
  | some (l, st, σ1) => (match evCF r ρ elt two st cond σ1 l with
    | some (ds, σ2) => some (.d (.lst ds), σ2)
    | none => none)
  | none => none

noncomputable def stepE (r : EvT) : EvT := fun σ ρ e => match e with
    | .var i => kVar σ ρ i
    | .glob i => (G i).map fun d => (.d d, σ)
    | .int i => some (.d (.int i), σ)
    | .bool b => some (.d (.bool b), σ)
    | .neg a => kNeg r σ ρ a
    | .bin o a b => k2 r σ ρ a b (kBin1 o)
    | .cmp o a b => k2 r σ ρ a b (kCmp1 o)
    | .and a b => kAnd r σ ρ a b
    | .or a b => kOr r σ ρ a b
    | .ite c a b => kIte r σ ρ c a b
    | .idx a i => k2 r σ ρ a i kIdx1
    | .upto a i => k2 r σ ρ a i (kTail List.take)
    | .from' a i => k2 r σ ρ a i (kTail List.drop)
    | .rev a => kRev r σ ρ a
    | .tup es => kSeq (fun ds σ1 => (.d (.tup ds), σ1)) r σ ρ es
    | .lst es => kSeq (fun ds σ1 => (.d (.lst ds), σ1)) r σ ρ es
    | .mlst es => kSeq (fun ds σ1 => (.m σ1.length, σ1 ++ [ds])) r σ ρ es
    | .mrep a b => kMrep r σ ρ a b
    | .mcopy a => kMcopy r σ ρ a
    | .call f es => kCall F r σ ρ f es
    | .blt b es => kBlt srt r σ ρ b es
    | .comp elt two k args cond => kComp r σ ρ elt two k args cond
    | .stop => none
noncomputable def evF (n : Nat) : EvT := Nat.rec (fun _ _ _ => none) (fun _ r => stepE F G srt r) n

theorem stepE_eq (n : Nat) (σ : Store) (ρ : Rho) (e : ME) : evE F G srt (n + 1) σ ρ e = stepE F G srt (evE F G srt n) σ ρ e := by
  cases e with
  | neg a =>
    simp only [evE, stepE, kNeg]
    cases evE F G srt n σ ρ a with
    | none => rfl
    | some p => obtain ⟨x, σ1⟩ := p; cases x with
      | m i => rfl
      | d x => cases x <;> first | rfl | simp [fI_eq]
  | bin o a b =>
    simp only [evE, stepE, k2]
    cases evE F G srt n σ ρ a with
    | none => rfl
    | some p =>
      obtain ⟨x, σ1⟩ := p
      simp only [Option.bind_some]
      cases evE F G srt n σ1 ρ b with
      | none => rfl
      | some q =>
        obtain ⟨y, σ2⟩ := q
        cases x <;> cases y <;> simp only [Option.bind_some, wD, kBin1, Option.bind_none]
        cases dBin o _ _ <;> simp [fD_eq]
  | cmp o a b =>
    simp only [evE, stepE, k2]
    cases evE F G srt n σ ρ a with
    | none => rfl
    | some p =>
      obtain ⟨x, σ1⟩ := p
      simp only [Option.bind_some]
      cases evE F G srt n σ1 ρ b with
      | none => rfl
      | some q =>
        obtain ⟨y, σ2⟩ := q
        cases x <;> cases y <;> simp only [Option.bind_some, wD, kCmp1, Option.bind_none]
        cases dCmp o _ _ with
        | none => rfl
        | some z => cases z <;> rfl
  | and a b =>
    simp only [evE, stepE, kAnd]
    cases evE F G srt n σ ρ a with
    | none => rfl
    | some p => obtain ⟨x, σ1⟩ := p; cases x with
      | m i => rfl
      | d x => cases x <;> rfl
  | or a b =>
    simp only [evE, stepE, kOr]
    cases evE F G srt n σ ρ a with
    | none => rfl
    | some p => obtain ⟨x, σ1⟩ := p; cases x with
      | m i => rfl
      | d x => cases x <;> rfl
  | ite c a b =>
    simp only [evE, stepE, kIte]
    cases evE F G srt n σ ρ c with
    | none => rfl
    | some p => obtain ⟨x, σ1⟩ := p; cases x with
      | m i => rfl
      | d x => cases x <;> rfl
  | idx a b =>
    simp only [evE, stepE, k2]
    cases evE F G srt n σ ρ a with
    | none => rfl
    | some p =>
      obtain ⟨x, σ1⟩ := p
      simp only [Option.bind_some]
      cases evE F G srt n σ1 ρ b with
      | none => rfl
      | some q =>
        obtain ⟨y, σ2⟩ := q
        simp only [Option.bind_some]
        have ki : ∀ l k, kI l k σ2 = (dIdx l k).map fun d => (W.d d, σ2) := fun l k => by unfold kI; cases dIdx l k <;> rfl
        unfold kIdx1
        simp only [ki]
        cases y with
        | m i => cases x with
          | m j => rfl
          | d x => cases x <;> rfl
        | d y =>
          cases x with
          | m j =>
            cases y <;> try rfl
            cases e : σ2[j]? <;> simp [e]
          | d x => cases x <;> cases y <;> rfl
  | upto a b =>
    simp only [evE, stepE, k2]
    cases evE F G srt n σ ρ a with
    | none => rfl
    | some p =>
      obtain ⟨x, σ1⟩ := p
      simp only [Option.bind_some]
      cases evE F G srt n σ1 ρ b with
      | none => rfl
      | some q =>
        obtain ⟨y, σ2⟩ := q
        simp only [Option.bind_some, kTail]
        cases y with
        | m i => rfl
        | d y =>
          cases y <;> try rfl
          cases wList σ2 x <;> rfl
  | from' a b =>
    simp only [evE, stepE, k2]
    cases evE F G srt n σ ρ a with
    | none => rfl
    | some p =>
      obtain ⟨x, σ1⟩ := p
      simp only [Option.bind_some]
      cases evE F G srt n σ1 ρ b with
      | none => rfl
      | some q =>
        obtain ⟨y, σ2⟩ := q
        simp only [Option.bind_some, kTail]
        cases y with
        | m i => rfl
        | d y =>
          cases y <;> try rfl
          cases wList σ2 x <;> rfl
  | call f es =>
    simp only [evE, stepE, kCall, evLF_eq]
    cases evLF (evE F G srt n) ρ σ es with
    | none => rfl
    | some p =>
      obtain ⟨ws, σ1⟩ := p
      simp only [Option.bind_some]
      cases F f ws σ1 <;> simp [fD_eq]
  | blt b es =>
    simp only [evE, stepE, kBlt, evLF_eq]
    cases evLF (evE F G srt n) ρ σ es with
    | none => rfl
    | some p =>
      obtain ⟨ws, σ1⟩ := p
      simp only [Option.bind_some]
      cases evBlt srt σ1 b ws <;> simp [fD_eq]
  | tup es =>
    simp only [evE, stepE, kSeq, evLF_eq]
    cases evLF (evE F G srt n) ρ σ es with
    | none => rfl
    | some p =>
      obtain ⟨ws, σ1⟩ := p
      simp only [Option.bind_some, wDsF_eq]
      cases wDsF ws <;> rfl
  | lst es =>
    simp only [evE, stepE, kSeq, evLF_eq]
    cases evLF (evE F G srt n) ρ σ es with
    | none => rfl
    | some p =>
      obtain ⟨ws, σ1⟩ := p
      simp only [Option.bind_some, wDsF_eq]
      cases wDsF ws <;> rfl
  | mlst es =>
    simp only [evE, stepE, kSeq, evLF_eq]
    cases evLF (evE F G srt n) ρ σ es with
    | none => rfl
    | some p =>
      obtain ⟨ws, σ1⟩ := p
      simp only [Option.bind_some, wDsF_eq]
      cases wDsF ws <;> rfl
  | comp elt two k args cond =>
    simp only [evE, stepE, kComp, evIF_eq]
    cases evIF (evE F G srt n) σ ρ k args with
    | none => rfl
    | some p =>
      obtain ⟨l, st, σ1⟩ := p
      simp only [Option.bind_some, evCF_eq]
      cases evCF (evE F G srt n) ρ elt two st cond σ1 l <;> rfl
  | _ => rfl

theorem evF_eq (n : Nat) : evE F G srt n = evF F G srt n := by
  induction n with
  | zero => rfl
  | succ n ih =>
    funext σ ρ e
    rw [stepE_eq, ih]
    rfl

/-! statements -/
abbrev R3 := Option (Fl × Rho × Store)
noncomputable def jSet (r : EvT) (σ : Store) (ρ : Rho) (i : Nat) (e : ME) : R3 := match r σ ρ e with
  | some (x, σ1) => if i < ρ.length then some (.next, ρ.set i (some x), σ1) else none
  | none => none
noncomputable def jSets (r : EvT) (σ : Store) (ρ : Rho) (sw : Bool) (is : List Nat) (es : List ME) : R3 := match evLF r ρ σ es with
  | some (ws, σ1) => if (is.all fun i => decide (i < ρ.length)) && decide (ws.length ≤ big) then (match (if sw then setAll ρ is.reverse ws.reverse else setAll ρ is ws) with
    | some ρ' => some (.next, ρ', σ1)
    | none => none) else none
  | none => none
noncomputable def jItem (r : EvT) (σ : Store) (ρ : Rho) (i : Nat) (k v : ME) : R3 := (r σ ρ v).bind fun p => (wD p.1).bind fun x => (r p.2 ρ k).bind fun q => match ρ[i]?, q.1 with
    | some (some (.m j)), .d (.int k) => (q.2[j]?).bind fun l => if 0 ≤ k && small k && decide (k.toNat < l.length) then some (.next, ρ, q.2.set j (l.set k.toNat x)) else none
    | _, _ => none
noncomputable def jApp (r : EvT) (σ : Store) (ρ : Rho) (i : Nat) (e : ME) : R3 := (r σ ρ e).bind fun p => (wD p.1).bind fun x => match ρ[i]? with
    | some (some (.m j)) => (p.2[j]?).bind fun l => if l.length ≤ big then some (.next, ρ, p.2.set j (l ++ [x])) else none
    | _ => none
noncomputable def jRem (r : EvT) (σ : Store) (ρ : Rho) (i : Nat) (e : ME) : R3 := (r σ ρ e).bind fun p => match p.1, ρ[i]? with
    | .d (.int a), some (some (.m j)) => (p.2[j]?).bind fun l => if l.length ≤ big then (dInts l).bind fun ns => (remI a ns).map fun ns' => (.next, ρ, p.2.set j (ns'.map .int)) else none
    | _, _ => none
noncomputable def jCond (r : EvT) (rs : ExT) (σ : Store) (ρ : Rho) (c : ME) (a b : List MS) : R3 := match r σ ρ c with
  | some (.d (.bool x), σ1) => if x then rs σ1 ρ a else rs σ1 ρ b
  | _ => none
noncomputable def jLoop (r : EvT) (rs : ExT) (σ : Store) (ρ : Rho) (c : ME) (b : List MS) : R3 := match r σ ρ c with
  | some (.d (.bool x), σ1) => if x then (match rs σ1 ρ b with
      | some (.next, ρ2, σ2) => rs σ2 ρ2 [.loop c b]
      | some (.ret w, ρ2, σ2) => some (.ret w, ρ2, σ2)
      | none => none) else some (.next, ρ, σ1)
  | _ => none
noncomputable def jEach (r : EvT) (rs : ExT) (σ : Store) (ρ : Rho) (tg : List Nat) (k : IK) (args : List ME) (b : List MS) : R3 := match evIF r σ ρ k args with
  | some (l, st, σ1) => if tg.all fun i => decide (i < ρ.length) then exEachF rs tg b st σ1 ρ l else none
  | none => none
noncomputable def jRet (r : EvT) (σ : Store) (ρ : Rho) (e : ME) : R3 := match r σ ρ e with
  | some (x, σ1) => some (.ret x, ρ, σ1)
  | none => none
noncomputable def stepS (r : EvT) (rs : ExT) (σ : Store) (ρ : Rho) (m : MS) : R3 := match m with
  | .set i e => jSet r σ ρ i e
  | .sets sw is es => jSets r σ ρ sw is es
  | .setItem i k v => jItem r σ ρ i k v
  | .app i e => jApp r σ ρ i e
  | .rem i e => jRem r σ ρ i e
  | .cond c a b => jCond r rs σ ρ c a b
  | .loop c a => jLoop r rs σ ρ c a
  | .each tg k args b => jEach r rs σ ρ tg k args b
  | .ret e => jRet r σ ρ e
  | .stop => none
theorem stepS_eq (r : EvT) (rs : ExT) (σ : Store) (ρ : Rho) (m : MS) : ex1 r rs σ ρ m = stepS r rs σ ρ m := by
  cases m with
  | set i e => simp only [ex1, stepS, jSet]; cases r σ ρ e <;> rfl
  | ret e => simp only [ex1, stepS, jRet]; cases r σ ρ e <;> rfl
  | sets sw is es =>
    simp only [ex1, stepS, jSets, evLF_eq]
    cases evLF r ρ σ es with
    | none => rfl
    | some p =>
      obtain ⟨ws, σ1⟩ := p
      simp only [Option.bind_some]
      split
      · cases (if sw then setAll ρ is.reverse ws.reverse else setAll ρ is ws) <;> rfl
      · rfl
  | each tg k args b =>
    simp only [ex1, stepS, jEach, evIF_eq]
    cases evIF r σ ρ k args with
    | none => rfl
    | some p =>
      obtain ⟨l, st, σ1⟩ := p
      simp only [Option.bind_some, exEachF_eq]
  | cond c a b =>
    simp only [ex1, stepS, jCond]
    cases r σ ρ c with
    | none => rfl
    | some p => obtain ⟨x, σ1⟩ := p; cases x with
      | m i => rfl
      | d x => cases x <;> rfl
  | loop c a =>
    simp only [ex1, stepS, jLoop]
    cases r σ ρ c with
    | none => rfl
    | some p => obtain ⟨x, σ1⟩ := p; cases x with
      | m i => rfl
      | d x =>
        cases x <;> try rfl
        rename_i b
        cases b
        · rfl
        · simp only [asTru, Option.bind_some, if_true]
          cases rs σ1 ρ a with
          | none => rfl
          | some q => obtain ⟨f, ρ2, σ2⟩ := q; cases f <;> rfl
  | _ => rfl
noncomputable def stepSs (r : EvT) (rs : ExT) : ExT := fun σ ρ l => match l with
  | [] => some (.next, ρ, σ)
  | m :: rest => match stepS r rs σ ρ m with
    | some (.next, ρ2, σ2) => rs σ2 ρ2 rest
    | some (.ret w, ρ2, σ2) => some (.ret w, ρ2, σ2)
    | none => none
noncomputable def exF (n : Nat) : ExT := Nat.rec (fun _ _ _ => none) (fun n rs => stepSs (evF F G srt n) rs) n
theorem exF_eq (n : Nat) : exS F G srt n = exF F G srt n := by
  induction n with
  | zero => rfl
  | succ n ih =>
    funext σ ρ l
    show _ = stepSs (evF F G srt n) (exF F G srt n) σ ρ l
    cases l with
    | nil => rfl
    | cons m rest =>
      simp only [exS, stepSs]
      rw [stepS_eq, evF_eq, ih]
      cases stepS (evF F G srt n) (exF F G srt n) σ ρ m with
      | none => rfl
      | some p => obtain ⟨f, ρ2, σ2⟩ := p; cases f <;> rfl

/-- a def's body upon its arguments: the quick form -/
noncomputable def exFnF (n np slots : Nat) (body : List MS) : FnT := fun ws σ => if ws.length = np then (match exF F G srt n σ (ws.map some ++ List.replicate (slots - ws.length) none) body with
    | some (.ret (.d x), _, σ2) => some (x, σ2.take σ.length)
    | some (.ret (.m i), _, σ2) => if σ.length ≤ i then (match σ2[i]? with
      | some l => some (.lst l, σ2.take σ.length)
      | none => none) else none
    | _ => none) else none
theorem exFnF_eq (n np slots : Nat) (body : List MS) (ws : List W) (σ : Store) : fnChk np (exFn F G srt n slots body) ws σ = exFnF F G srt n np slots body ws σ := by
  unfold fnChk exFn exFnF
  rw [exF_eq]
  split
  · cases exF F G srt n σ (ws.map some ++ List.replicate (slots - ws.length) none) body with
    | none => rfl
    | some p =>
      obtain ⟨f, ρ2, σ2⟩ := p
      cases f with
      | next => rfl
      | ret w =>
        cases w with
        | d x => rfl
        | m i =>
          simp only [Option.bind_some]
          split
          · cases σ2[i]? <;> rfl
          · rfl
  · rfl
end
end Mine


namespace Mine

noncomputable def defAt (k : Nat) : PySem.Stmt := (PySem.Challenge.pw_xm0070_01.main.body[k]?).getD (.Pass default)
noncomputable def bodyOf : PySem.Stmt → List PySem.Stmt
  | .FunctionDef _ _ body .. => body
  | _ => []
noncomputable def namesOf : PySem.Stmt → List (Str × NameKind)
  | .FunctionDef _ _ _ _ _ _ scope _ _ _ => scope.names
  | _ => []
theorem swaps_yes {env : Env} {x : Str} {pp : Pos} {elt : PySem.Expr} {gens : List Comprehension} {scope : Scope} {cp : Pos} {n : Nat} (h1 : env.scope.kind = .function) (h2 : env.kindOf x = some .local) (h3 : (pp.line == cp.line) = true)
    (h4 : (scope.names.any fun p => p.1 == x && (p.2 == .local || p.2 == .cell)) = false) : swapsWith (.ListComp elt gens scope cp) (some (.Name x pp)) n env = pure true := by
  have hb : (env.blockKind == .function) = true := by
    unfold Env.blockKind
    rw [h1]; rfl
  have h5 : (scope.names.any fun (n, k) => n == x && (k == .local || k == .cell)) = false := h4
  unfold swapsWith
  simp only []
  rw [hb, h2, h5]
  show (pure (true && true && (pp.line == cp.line) && !false) : Sem Bool) = pure true
  rw [h3]
  rfl
theorem comp_of {T : Tb} {C : Cx} {elt target iter : PySem.Expr} {ifs : List PySem.Expr} {scope : Scope} {pos : Pos} {e' : ME} {two : Bool} {k : IK} {args : List ME} {cond : Option ME} {tg : List Str} (ht : Tgt target tg) (sc : scOk C scope tg) (h2 : two = decide (tg.length = 2))
      (hk : k = .enum → two = true) (hi : CI T C iter k args) (he : CE T (cxIn C scope.names tg) elt e') (hc : CC T (cxIn C scope.names tg) ifs cond) : CE T C (.ListComp elt [⟨target, iter, ifs, 0⟩] scope pos) (.comp e' two k args cond) := .comp sc ht h2 hk hi he hc
noncomputable def cxOf (k : Nat) (sl : List Str) : Cx := ⟨sl.map some, namesOf (defAt k)⟩

set_option maxRecDepth 100000 in
theorem cs_gcd : CSs T (cxOf 3 sl_gcd) (bodyOf (defAt 3)) ms_gcd := by
  unfold ms_gcd
  apply CSs.cons
  all_goals (repeat' (first
    | with_reducible exact CSs.nil | with_reducible apply CSs.cons | with_reducible exact CEs.nil | with_reducible apply CEs.cons | with_reducible exact CC.none | with_reducible apply CC.some
    | with_reducible apply CS.sets | with_reducible apply CS.setItem | with_reducible apply CS.app | with_reducible apply CS.rem
    | with_reducible apply CS.cond | with_reducible apply CS.loop | with_reducible apply CS.each | with_reducible apply CS.ret | with_reducible exact CS.stop
    | with_reducible apply CT.cmp | with_reducible apply CT.bool | with_reducible refine CT.call (by decide +kernel) ?_ | with_reducible apply CTl.and | with_reducible apply CTl.or | with_reducible apply CTl.one
    | with_reducible apply CE.var | with_reducible apply CE.glob | with_reducible exact CE.int | with_reducible exact CE.bool | with_reducible apply CE.neg | with_reducible apply CE.bin | with_reducible apply CE.cmp | with_reducible apply CE.and | with_reducible apply CE.ite
    | with_reducible apply CE.idx | with_reducible apply CE.upto | with_reducible apply CE.from' | with_reducible apply CE.rev | with_reducible apply CE.tup | with_reducible apply CE.lst | with_reducible apply CE.mlst | with_reducible apply CE.mrep | with_reducible apply CE.mcopy
    | with_reducible apply CE.call | with_reducible apply CE.blt | with_reducible apply comp_of | with_reducible exact CE.stop
    | with_reducible apply CI.range | with_reducible apply CI.enum | with_reducible apply CI.val
    | with_reducible exact Tgt.one | with_reducible exact Tgt.two | with_reducible exact Nms.nil | with_reducible apply Nms.cons
    | with_reducible refine CS.set (by decide +kernel) (by decide +kernel) ?_ | with_reducible refine CS.setc (by decide +kernel) (by decide +kernel) ?_ ?_
    | with_reducible rfl
    | (intro h; cases h; done)
    | exact fun _ h1 h2 => swaps_yes h1 h2 (by decide +kernel) (by decide +kernel)
    | exact fun _ => rfl
    | exact fun _ => ⟨_, rfl⟩
    | exact fun _ _ => rfl
    | decide +kernel
    | refine ⟨rfl, by decide +kernel, by decide +kernel, by decide +kernel, by decide +kernel⟩))
set_option maxRecDepth 100000 in
theorem cs_rat : CSs T (cxOf 9 sl_rat) (bodyOf (defAt 9)) ms_rat := by
  unfold ms_rat
  apply CSs.cons
  all_goals (repeat' (first
    | with_reducible exact CSs.nil | with_reducible apply CSs.cons | with_reducible exact CEs.nil | with_reducible apply CEs.cons | with_reducible exact CC.none | with_reducible apply CC.some
    | with_reducible apply CS.sets | with_reducible apply CS.setItem | with_reducible apply CS.app | with_reducible apply CS.rem
    | with_reducible apply CS.cond | with_reducible apply CS.loop | with_reducible apply CS.each | with_reducible apply CS.ret | with_reducible exact CS.stop
    | with_reducible apply CT.cmp | with_reducible apply CT.bool | with_reducible refine CT.call (by decide +kernel) ?_ | with_reducible apply CTl.and | with_reducible apply CTl.or | with_reducible apply CTl.one
    | with_reducible apply CE.var | with_reducible apply CE.glob | with_reducible exact CE.int | with_reducible exact CE.bool | with_reducible apply CE.neg | with_reducible apply CE.bin | with_reducible apply CE.cmp | with_reducible apply CE.and | with_reducible apply CE.ite
    | with_reducible apply CE.idx | with_reducible apply CE.upto | with_reducible apply CE.from' | with_reducible apply CE.rev | with_reducible apply CE.tup | with_reducible apply CE.lst | with_reducible apply CE.mlst | with_reducible apply CE.mrep | with_reducible apply CE.mcopy
    | with_reducible apply CE.call | with_reducible apply CE.blt | with_reducible apply comp_of | with_reducible exact CE.stop
    | with_reducible apply CI.range | with_reducible apply CI.enum | with_reducible apply CI.val
    | with_reducible exact Tgt.one | with_reducible exact Tgt.two | with_reducible exact Nms.nil | with_reducible apply Nms.cons
    | with_reducible refine CS.set (by decide +kernel) (by decide +kernel) ?_ | with_reducible refine CS.setc (by decide +kernel) (by decide +kernel) ?_ ?_
    | with_reducible rfl
    | (intro h; cases h; done)
    | exact fun _ h1 h2 => swaps_yes h1 h2 (by decide +kernel) (by decide +kernel)
    | exact fun _ => rfl
    | exact fun _ => ⟨_, rfl⟩
    | exact fun _ _ => rfl
    | decide +kernel
    | refine ⟨rfl, by decide +kernel, by decide +kernel, by decide +kernel, by decide +kernel⟩))
set_option maxRecDepth 100000 in
theorem cs_radd : CSs T (cxOf 10 sl_radd) (bodyOf (defAt 10)) ms_radd := by
  unfold ms_radd
  apply CSs.cons
  all_goals (repeat' (first
    | with_reducible exact CSs.nil | with_reducible apply CSs.cons | with_reducible exact CEs.nil | with_reducible apply CEs.cons | with_reducible exact CC.none | with_reducible apply CC.some
    | with_reducible apply CS.sets | with_reducible apply CS.setItem | with_reducible apply CS.app | with_reducible apply CS.rem
    | with_reducible apply CS.cond | with_reducible apply CS.loop | with_reducible apply CS.each | with_reducible apply CS.ret | with_reducible exact CS.stop
    | with_reducible apply CT.cmp | with_reducible apply CT.bool | with_reducible refine CT.call (by decide +kernel) ?_ | with_reducible apply CTl.and | with_reducible apply CTl.or | with_reducible apply CTl.one
    | with_reducible apply CE.var | with_reducible apply CE.glob | with_reducible exact CE.int | with_reducible exact CE.bool | with_reducible apply CE.neg | with_reducible apply CE.bin | with_reducible apply CE.cmp | with_reducible apply CE.and | with_reducible apply CE.ite
    | with_reducible apply CE.idx | with_reducible apply CE.upto | with_reducible apply CE.from' | with_reducible apply CE.rev | with_reducible apply CE.tup | with_reducible apply CE.lst | with_reducible apply CE.mlst | with_reducible apply CE.mrep | with_reducible apply CE.mcopy
    | with_reducible apply CE.call | with_reducible apply CE.blt | with_reducible apply comp_of | with_reducible exact CE.stop
    | with_reducible apply CI.range | with_reducible apply CI.enum | with_reducible apply CI.val
    | with_reducible exact Tgt.one | with_reducible exact Tgt.two | with_reducible exact Nms.nil | with_reducible apply Nms.cons
    | with_reducible refine CS.set (by decide +kernel) (by decide +kernel) ?_ | with_reducible refine CS.setc (by decide +kernel) (by decide +kernel) ?_ ?_
    | with_reducible rfl
    | (intro h; cases h; done)
    | exact fun _ h1 h2 => swaps_yes h1 h2 (by decide +kernel) (by decide +kernel)
    | exact fun _ => rfl
    | exact fun _ => ⟨_, rfl⟩
    | exact fun _ _ => rfl
    | decide +kernel
    | refine ⟨rfl, by decide +kernel, by decide +kernel, by decide +kernel, by decide +kernel⟩))
set_option maxRecDepth 100000 in
theorem cs_rsub : CSs T (cxOf 11 sl_rsub) (bodyOf (defAt 11)) ms_rsub := by
  unfold ms_rsub
  apply CSs.cons
  all_goals (repeat' (first
    | with_reducible exact CSs.nil | with_reducible apply CSs.cons | with_reducible exact CEs.nil | with_reducible apply CEs.cons | with_reducible exact CC.none | with_reducible apply CC.some
    | with_reducible apply CS.sets | with_reducible apply CS.setItem | with_reducible apply CS.app | with_reducible apply CS.rem
    | with_reducible apply CS.cond | with_reducible apply CS.loop | with_reducible apply CS.each | with_reducible apply CS.ret | with_reducible exact CS.stop
    | with_reducible apply CT.cmp | with_reducible apply CT.bool | with_reducible refine CT.call (by decide +kernel) ?_ | with_reducible apply CTl.and | with_reducible apply CTl.or | with_reducible apply CTl.one
    | with_reducible apply CE.var | with_reducible apply CE.glob | with_reducible exact CE.int | with_reducible exact CE.bool | with_reducible apply CE.neg | with_reducible apply CE.bin | with_reducible apply CE.cmp | with_reducible apply CE.and | with_reducible apply CE.ite
    | with_reducible apply CE.idx | with_reducible apply CE.upto | with_reducible apply CE.from' | with_reducible apply CE.rev | with_reducible apply CE.tup | with_reducible apply CE.lst | with_reducible apply CE.mlst | with_reducible apply CE.mrep | with_reducible apply CE.mcopy
    | with_reducible apply CE.call | with_reducible apply CE.blt | with_reducible apply comp_of | with_reducible exact CE.stop
    | with_reducible apply CI.range | with_reducible apply CI.enum | with_reducible apply CI.val
    | with_reducible exact Tgt.one | with_reducible exact Tgt.two | with_reducible exact Nms.nil | with_reducible apply Nms.cons
    | with_reducible refine CS.set (by decide +kernel) (by decide +kernel) ?_ | with_reducible refine CS.setc (by decide +kernel) (by decide +kernel) ?_ ?_
    | with_reducible rfl
    | (intro h; cases h; done)
    | exact fun _ h1 h2 => swaps_yes h1 h2 (by decide +kernel) (by decide +kernel)
    | exact fun _ => rfl
    | exact fun _ => ⟨_, rfl⟩
    | exact fun _ _ => rfl
    | decide +kernel
    | refine ⟨rfl, by decide +kernel, by decide +kernel, by decide +kernel, by decide +kernel⟩))
set_option maxRecDepth 100000 in
theorem cs_rmul : CSs T (cxOf 12 sl_rmul) (bodyOf (defAt 12)) ms_rmul := by
  unfold ms_rmul
  apply CSs.cons
  all_goals (repeat' (first
    | with_reducible exact CSs.nil | with_reducible apply CSs.cons | with_reducible exact CEs.nil | with_reducible apply CEs.cons | with_reducible exact CC.none | with_reducible apply CC.some
    | with_reducible apply CS.sets | with_reducible apply CS.setItem | with_reducible apply CS.app | with_reducible apply CS.rem
    | with_reducible apply CS.cond | with_reducible apply CS.loop | with_reducible apply CS.each | with_reducible apply CS.ret | with_reducible exact CS.stop
    | with_reducible apply CT.cmp | with_reducible apply CT.bool | with_reducible refine CT.call (by decide +kernel) ?_ | with_reducible apply CTl.and | with_reducible apply CTl.or | with_reducible apply CTl.one
    | with_reducible apply CE.var | with_reducible apply CE.glob | with_reducible exact CE.int | with_reducible exact CE.bool | with_reducible apply CE.neg | with_reducible apply CE.bin | with_reducible apply CE.cmp | with_reducible apply CE.and | with_reducible apply CE.ite
    | with_reducible apply CE.idx | with_reducible apply CE.upto | with_reducible apply CE.from' | with_reducible apply CE.rev | with_reducible apply CE.tup | with_reducible apply CE.lst | with_reducible apply CE.mlst | with_reducible apply CE.mrep | with_reducible apply CE.mcopy
    | with_reducible apply CE.call | with_reducible apply CE.blt | with_reducible apply comp_of | with_reducible exact CE.stop
    | with_reducible apply CI.range | with_reducible apply CI.enum | with_reducible apply CI.val
    | with_reducible exact Tgt.one | with_reducible exact Tgt.two | with_reducible exact Nms.nil | with_reducible apply Nms.cons
    | with_reducible refine CS.set (by decide +kernel) (by decide +kernel) ?_ | with_reducible refine CS.setc (by decide +kernel) (by decide +kernel) ?_ ?_
    | with_reducible rfl
    | (intro h; cases h; done)
    | exact fun _ h1 h2 => swaps_yes h1 h2 (by decide +kernel) (by decide +kernel)
    | exact fun _ => rfl
    | exact fun _ => ⟨_, rfl⟩
    | exact fun _ _ => rfl
    | decide +kernel
    | refine ⟨rfl, by decide +kernel, by decide +kernel, by decide +kernel, by decide +kernel⟩))
set_option maxRecDepth 100000 in
theorem cs_rdiv : CSs T (cxOf 13 sl_rdiv) (bodyOf (defAt 13)) ms_rdiv := by
  unfold ms_rdiv
  apply CSs.cons
  all_goals (repeat' (first
    | with_reducible exact CSs.nil | with_reducible apply CSs.cons | with_reducible exact CEs.nil | with_reducible apply CEs.cons | with_reducible exact CC.none | with_reducible apply CC.some
    | with_reducible apply CS.sets | with_reducible apply CS.setItem | with_reducible apply CS.app | with_reducible apply CS.rem
    | with_reducible apply CS.cond | with_reducible apply CS.loop | with_reducible apply CS.each | with_reducible apply CS.ret | with_reducible exact CS.stop
    | with_reducible apply CT.cmp | with_reducible apply CT.bool | with_reducible refine CT.call (by decide +kernel) ?_ | with_reducible apply CTl.and | with_reducible apply CTl.or | with_reducible apply CTl.one
    | with_reducible apply CE.var | with_reducible apply CE.glob | with_reducible exact CE.int | with_reducible exact CE.bool | with_reducible apply CE.neg | with_reducible apply CE.bin | with_reducible apply CE.cmp | with_reducible apply CE.and | with_reducible apply CE.ite
    | with_reducible apply CE.idx | with_reducible apply CE.upto | with_reducible apply CE.from' | with_reducible apply CE.rev | with_reducible apply CE.tup | with_reducible apply CE.lst | with_reducible apply CE.mlst | with_reducible apply CE.mrep | with_reducible apply CE.mcopy
    | with_reducible apply CE.call | with_reducible apply CE.blt | with_reducible apply comp_of | with_reducible exact CE.stop
    | with_reducible apply CI.range | with_reducible apply CI.enum | with_reducible apply CI.val
    | with_reducible exact Tgt.one | with_reducible exact Tgt.two | with_reducible exact Nms.nil | with_reducible apply Nms.cons
    | with_reducible refine CS.set (by decide +kernel) (by decide +kernel) ?_ | with_reducible refine CS.setc (by decide +kernel) (by decide +kernel) ?_ ?_
    | with_reducible rfl
    | (intro h; cases h; done)
    | exact fun _ h1 h2 => swaps_yes h1 h2 (by decide +kernel) (by decide +kernel)
    | exact fun _ => rfl
    | exact fun _ => ⟨_, rfl⟩
    | exact fun _ _ => rfl
    | decide +kernel
    | refine ⟨rfl, by decide +kernel, by decide +kernel, by decide +kernel, by decide +kernel⟩))
set_option maxRecDepth 100000 in
theorem cs_is_vast : CSs T (cxOf 14 sl_is_vast) (bodyOf (defAt 14)) ms_is_vast := by
  unfold ms_is_vast
  apply CSs.cons
  all_goals (repeat' (first
    | with_reducible exact CSs.nil | with_reducible apply CSs.cons | with_reducible exact CEs.nil | with_reducible apply CEs.cons | with_reducible exact CC.none | with_reducible apply CC.some
    | with_reducible apply CS.sets | with_reducible apply CS.setItem | with_reducible apply CS.app | with_reducible apply CS.rem
    | with_reducible apply CS.cond | with_reducible apply CS.loop | with_reducible apply CS.each | with_reducible apply CS.ret | with_reducible exact CS.stop
    | with_reducible apply CT.cmp | with_reducible apply CT.bool | with_reducible refine CT.call (by decide +kernel) ?_ | with_reducible apply CTl.and | with_reducible apply CTl.or | with_reducible apply CTl.one
    | with_reducible apply CE.var | with_reducible apply CE.glob | with_reducible exact CE.int | with_reducible exact CE.bool | with_reducible apply CE.neg | with_reducible apply CE.bin | with_reducible apply CE.cmp | with_reducible apply CE.and | with_reducible apply CE.ite
    | with_reducible apply CE.idx | with_reducible apply CE.upto | with_reducible apply CE.from' | with_reducible apply CE.rev | with_reducible apply CE.tup | with_reducible apply CE.lst | with_reducible apply CE.mlst | with_reducible apply CE.mrep | with_reducible apply CE.mcopy
    | with_reducible apply CE.call | with_reducible apply CE.blt | with_reducible apply comp_of | with_reducible exact CE.stop
    | with_reducible apply CI.range | with_reducible apply CI.enum | with_reducible apply CI.val
    | with_reducible exact Tgt.one | with_reducible exact Tgt.two | with_reducible exact Nms.nil | with_reducible apply Nms.cons
    | with_reducible refine CS.set (by decide +kernel) (by decide +kernel) ?_ | with_reducible refine CS.setc (by decide +kernel) (by decide +kernel) ?_ ?_
    | with_reducible rfl
    | (intro h; cases h; done)
    | exact fun _ h1 h2 => swaps_yes h1 h2 (by decide +kernel) (by decide +kernel)
    | exact fun _ => rfl
    | exact fun _ => ⟨_, rfl⟩
    | exact fun _ _ => rfl
    | decide +kernel
    | refine ⟨rfl, by decide +kernel, by decide +kernel, by decide +kernel, by decide +kernel⟩))
set_option maxRecDepth 100000 in
theorem cs_cut : CSs T (cxOf 16 sl_cut) (bodyOf (defAt 16)) ms_cut := by
  unfold ms_cut
  apply CSs.cons
  all_goals (repeat' (first
    | with_reducible exact CSs.nil | with_reducible apply CSs.cons | with_reducible exact CEs.nil | with_reducible apply CEs.cons | with_reducible exact CC.none | with_reducible apply CC.some
    | with_reducible apply CS.sets | with_reducible apply CS.setItem | with_reducible apply CS.app | with_reducible apply CS.rem
    | with_reducible apply CS.cond | with_reducible apply CS.loop | with_reducible apply CS.each | with_reducible apply CS.ret | with_reducible exact CS.stop
    | with_reducible apply CT.cmp | with_reducible apply CT.bool | with_reducible refine CT.call (by decide +kernel) ?_ | with_reducible apply CTl.and | with_reducible apply CTl.or | with_reducible apply CTl.one
    | with_reducible apply CE.var | with_reducible apply CE.glob | with_reducible exact CE.int | with_reducible exact CE.bool | with_reducible apply CE.neg | with_reducible apply CE.bin | with_reducible apply CE.cmp | with_reducible apply CE.and | with_reducible apply CE.ite
    | with_reducible apply CE.idx | with_reducible apply CE.upto | with_reducible apply CE.from' | with_reducible apply CE.rev | with_reducible apply CE.tup | with_reducible apply CE.lst | with_reducible apply CE.mlst | with_reducible apply CE.mrep | with_reducible apply CE.mcopy
    | with_reducible apply CE.call | with_reducible apply CE.blt | with_reducible apply comp_of | with_reducible exact CE.stop
    | with_reducible apply CI.range | with_reducible apply CI.enum | with_reducible apply CI.val
    | with_reducible exact Tgt.one | with_reducible exact Tgt.two | with_reducible exact Nms.nil | with_reducible apply Nms.cons
    | with_reducible refine CS.set (by decide +kernel) (by decide +kernel) ?_ | with_reducible refine CS.setc (by decide +kernel) (by decide +kernel) ?_ ?_
    | with_reducible rfl
    | (intro h; cases h; done)
    | exact fun _ h1 h2 => swaps_yes h1 h2 (by decide +kernel) (by decide +kernel)
    | exact fun _ => rfl
    | exact fun _ => ⟨_, rfl⟩
    | exact fun _ _ => rfl
    | decide +kernel
    | refine ⟨rfl, by decide +kernel, by decide +kernel, by decide +kernel, by decide +kernel⟩))
set_option maxRecDepth 100000 in
theorem cs_let : CSs T (cxOf 17 sl_let) (bodyOf (defAt 17)) ms_let := by
  unfold ms_let
  apply CSs.cons
  all_goals (repeat' (first
    | with_reducible exact CSs.nil | with_reducible apply CSs.cons | with_reducible exact CEs.nil | with_reducible apply CEs.cons | with_reducible exact CC.none | with_reducible apply CC.some
    | with_reducible apply CS.sets | with_reducible apply CS.setItem | with_reducible apply CS.app | with_reducible apply CS.rem
    | with_reducible apply CS.cond | with_reducible apply CS.loop | with_reducible apply CS.each | with_reducible apply CS.ret | with_reducible exact CS.stop
    | with_reducible apply CT.cmp | with_reducible apply CT.bool | with_reducible refine CT.call (by decide +kernel) ?_ | with_reducible apply CTl.and | with_reducible apply CTl.or | with_reducible apply CTl.one
    | with_reducible apply CE.var | with_reducible apply CE.glob | with_reducible exact CE.int | with_reducible exact CE.bool | with_reducible apply CE.neg | with_reducible apply CE.bin | with_reducible apply CE.cmp | with_reducible apply CE.and | with_reducible apply CE.ite
    | with_reducible apply CE.idx | with_reducible apply CE.upto | with_reducible apply CE.from' | with_reducible apply CE.rev | with_reducible apply CE.tup | with_reducible apply CE.lst | with_reducible apply CE.mlst | with_reducible apply CE.mrep | with_reducible apply CE.mcopy
    | with_reducible apply CE.call | with_reducible apply CE.blt | with_reducible apply comp_of | with_reducible exact CE.stop
    | with_reducible apply CI.range | with_reducible apply CI.enum | with_reducible apply CI.val
    | with_reducible exact Tgt.one | with_reducible exact Tgt.two | with_reducible exact Nms.nil | with_reducible apply Nms.cons
    | with_reducible refine CS.set (by decide +kernel) (by decide +kernel) ?_ | with_reducible refine CS.setc (by decide +kernel) (by decide +kernel) ?_ ?_
    | with_reducible rfl
    | (intro h; cases h; done)
    | exact fun _ h1 h2 => swaps_yes h1 h2 (by decide +kernel) (by decide +kernel)
    | exact fun _ => rfl
    | exact fun _ => ⟨_, rfl⟩
    | exact fun _ _ => rfl
    | decide +kernel
    | refine ⟨rfl, by decide +kernel, by decide +kernel, by decide +kernel, by decide +kernel⟩))
set_option maxRecDepth 100000 in
theorem cs_mixed : CSs T (cxOf 18 sl_mixed) (bodyOf (defAt 18)) ms_mixed := by
  unfold ms_mixed
  apply CSs.cons
  all_goals (repeat' (first
    | with_reducible exact CSs.nil | with_reducible apply CSs.cons | with_reducible exact CEs.nil | with_reducible apply CEs.cons | with_reducible exact CC.none | with_reducible apply CC.some
    | with_reducible apply CS.sets | with_reducible apply CS.setItem | with_reducible apply CS.app | with_reducible apply CS.rem
    | with_reducible apply CS.cond | with_reducible apply CS.loop | with_reducible apply CS.each | with_reducible apply CS.ret | with_reducible exact CS.stop
    | with_reducible apply CT.cmp | with_reducible apply CT.bool | with_reducible refine CT.call (by decide +kernel) ?_ | with_reducible apply CTl.and | with_reducible apply CTl.or | with_reducible apply CTl.one
    | with_reducible apply CE.var | with_reducible apply CE.glob | with_reducible exact CE.int | with_reducible exact CE.bool | with_reducible apply CE.neg | with_reducible apply CE.bin | with_reducible apply CE.cmp | with_reducible apply CE.and | with_reducible apply CE.ite
    | with_reducible apply CE.idx | with_reducible apply CE.upto | with_reducible apply CE.from' | with_reducible apply CE.rev | with_reducible apply CE.tup | with_reducible apply CE.lst | with_reducible apply CE.mlst | with_reducible apply CE.mrep | with_reducible apply CE.mcopy
    | with_reducible apply CE.call | with_reducible apply CE.blt | with_reducible apply comp_of | with_reducible exact CE.stop
    | with_reducible apply CI.range | with_reducible apply CI.enum | with_reducible apply CI.val
    | with_reducible exact Tgt.one | with_reducible exact Tgt.two | with_reducible exact Nms.nil | with_reducible apply Nms.cons
    | with_reducible refine CS.set (by decide +kernel) (by decide +kernel) ?_ | with_reducible refine CS.setc (by decide +kernel) (by decide +kernel) ?_ ?_
    | with_reducible rfl
    | (intro h; cases h; done)
    | exact fun _ h1 h2 => swaps_yes h1 h2 (by decide +kernel) (by decide +kernel)
    | exact fun _ => rfl
    | exact fun _ => ⟨_, rfl⟩
    | exact fun _ _ => rfl
    | decide +kernel
    | refine ⟨rfl, by decide +kernel, by decide +kernel, by decide +kernel, by decide +kernel⟩))
set_option maxRecDepth 100000 in
theorem cs_smul : CSs T (cxOf 19 sl_smul) (bodyOf (defAt 19)) ms_smul := by
  unfold ms_smul
  apply CSs.cons
  all_goals (repeat' (first
    | with_reducible exact CSs.nil | with_reducible apply CSs.cons | with_reducible exact CEs.nil | with_reducible apply CEs.cons | with_reducible exact CC.none | with_reducible apply CC.some
    | with_reducible apply CS.sets | with_reducible apply CS.setItem | with_reducible apply CS.app | with_reducible apply CS.rem
    | with_reducible apply CS.cond | with_reducible apply CS.loop | with_reducible apply CS.each | with_reducible apply CS.ret | with_reducible exact CS.stop
    | with_reducible apply CT.cmp | with_reducible apply CT.bool | with_reducible refine CT.call (by decide +kernel) ?_ | with_reducible apply CTl.and | with_reducible apply CTl.or | with_reducible apply CTl.one
    | with_reducible apply CE.var | with_reducible apply CE.glob | with_reducible exact CE.int | with_reducible exact CE.bool | with_reducible apply CE.neg | with_reducible apply CE.bin | with_reducible apply CE.cmp | with_reducible apply CE.and | with_reducible apply CE.ite
    | with_reducible apply CE.idx | with_reducible apply CE.upto | with_reducible apply CE.from' | with_reducible apply CE.rev | with_reducible apply CE.tup | with_reducible apply CE.lst | with_reducible apply CE.mlst | with_reducible apply CE.mrep | with_reducible apply CE.mcopy
    | with_reducible apply CE.call | with_reducible apply CE.blt | with_reducible apply comp_of | with_reducible exact CE.stop
    | with_reducible apply CI.range | with_reducible apply CI.enum | with_reducible apply CI.val
    | with_reducible exact Tgt.one | with_reducible exact Tgt.two | with_reducible exact Nms.nil | with_reducible apply Nms.cons
    | with_reducible refine CS.set (by decide +kernel) (by decide +kernel) ?_ | with_reducible refine CS.setc (by decide +kernel) (by decide +kernel) ?_ ?_
    | with_reducible rfl
    | (intro h; cases h; done)
    | exact fun _ h1 h2 => swaps_yes h1 h2 (by decide +kernel) (by decide +kernel)
    | exact fun _ => rfl
    | exact fun _ => ⟨_, rfl⟩
    | exact fun _ _ => rfl
    | decide +kernel
    | refine ⟨rfl, by decide +kernel, by decide +kernel, by decide +kernel, by decide +kernel⟩))
set_option maxRecDepth 100000 in
theorem cs_sinverse : CSs T (cxOf 20 sl_sinverse) (bodyOf (defAt 20)) ms_sinverse := by
  unfold ms_sinverse
  apply CSs.cons
  all_goals (repeat' (first
    | with_reducible exact CSs.nil | with_reducible apply CSs.cons | with_reducible exact CEs.nil | with_reducible apply CEs.cons | with_reducible exact CC.none | with_reducible apply CC.some
    | with_reducible apply CS.sets | with_reducible apply CS.setItem | with_reducible apply CS.app | with_reducible apply CS.rem
    | with_reducible apply CS.cond | with_reducible apply CS.loop | with_reducible apply CS.each | with_reducible apply CS.ret | with_reducible exact CS.stop
    | with_reducible apply CT.cmp | with_reducible apply CT.bool | with_reducible refine CT.call (by decide +kernel) ?_ | with_reducible apply CTl.and | with_reducible apply CTl.or | with_reducible apply CTl.one
    | with_reducible apply CE.var | with_reducible apply CE.glob | with_reducible exact CE.int | with_reducible exact CE.bool | with_reducible apply CE.neg | with_reducible apply CE.bin | with_reducible apply CE.cmp | with_reducible apply CE.and | with_reducible apply CE.ite
    | with_reducible apply CE.idx | with_reducible apply CE.upto | with_reducible apply CE.from' | with_reducible apply CE.rev | with_reducible apply CE.tup | with_reducible apply CE.lst | with_reducible apply CE.mlst | with_reducible apply CE.mrep | with_reducible apply CE.mcopy
    | with_reducible apply CE.call | with_reducible apply CE.blt | with_reducible apply comp_of | with_reducible exact CE.stop
    | with_reducible apply CI.range | with_reducible apply CI.enum | with_reducible apply CI.val
    | with_reducible exact Tgt.one | with_reducible exact Tgt.two | with_reducible exact Nms.nil | with_reducible apply Nms.cons
    | with_reducible refine CS.set (by decide +kernel) (by decide +kernel) ?_ | with_reducible refine CS.setc (by decide +kernel) (by decide +kernel) ?_ ?_
    | with_reducible rfl
    | (intro h; cases h; done)
    | exact fun _ h1 h2 => swaps_yes h1 h2 (by decide +kernel) (by decide +kernel)
    | exact fun _ => rfl
    | exact fun _ => ⟨_, rfl⟩
    | exact fun _ _ => rfl
    | decide +kernel
    | refine ⟨rfl, by decide +kernel, by decide +kernel, by decide +kernel, by decide +kernel⟩))
set_option maxRecDepth 100000 in
theorem cs_swhole_power : CSs T (cxOf 21 sl_swhole_power) (bodyOf (defAt 21)) ms_swhole_power := by
  unfold ms_swhole_power
  apply CSs.cons
  all_goals (repeat' (first
    | with_reducible exact CSs.nil | with_reducible apply CSs.cons | with_reducible exact CEs.nil | with_reducible apply CEs.cons | with_reducible exact CC.none | with_reducible apply CC.some
    | with_reducible apply CS.sets | with_reducible apply CS.setItem | with_reducible apply CS.app | with_reducible apply CS.rem
    | with_reducible apply CS.cond | with_reducible apply CS.loop | with_reducible apply CS.each | with_reducible apply CS.ret | with_reducible exact CS.stop
    | with_reducible apply CT.cmp | with_reducible apply CT.bool | with_reducible refine CT.call (by decide +kernel) ?_ | with_reducible apply CTl.and | with_reducible apply CTl.or | with_reducible apply CTl.one
    | with_reducible apply CE.var | with_reducible apply CE.glob | with_reducible exact CE.int | with_reducible exact CE.bool | with_reducible apply CE.neg | with_reducible apply CE.bin | with_reducible apply CE.cmp | with_reducible apply CE.and | with_reducible apply CE.ite
    | with_reducible apply CE.idx | with_reducible apply CE.upto | with_reducible apply CE.from' | with_reducible apply CE.rev | with_reducible apply CE.tup | with_reducible apply CE.lst | with_reducible apply CE.mlst | with_reducible apply CE.mrep | with_reducible apply CE.mcopy
    | with_reducible apply CE.call | with_reducible apply CE.blt | with_reducible apply comp_of | with_reducible exact CE.stop
    | with_reducible apply CI.range | with_reducible apply CI.enum | with_reducible apply CI.val
    | with_reducible exact Tgt.one | with_reducible exact Tgt.two | with_reducible exact Nms.nil | with_reducible apply Nms.cons
    | with_reducible refine CS.set (by decide +kernel) (by decide +kernel) ?_ | with_reducible refine CS.setc (by decide +kernel) (by decide +kernel) ?_ ?_
    | with_reducible rfl
    | (intro h; cases h; done)
    | exact fun _ h1 h2 => swaps_yes h1 h2 (by decide +kernel) (by decide +kernel)
    | exact fun _ => rfl
    | exact fun _ => ⟨_, rfl⟩
    | exact fun _ _ => rfl
    | decide +kernel
    | refine ⟨rfl, by decide +kernel, by decide +kernel, by decide +kernel, by decide +kernel⟩))
set_option maxRecDepth 100000 in
theorem cs_law_draw : CSs T (cxOf 23 sl_law_draw) (bodyOf (defAt 23)) ms_law_draw := by
  unfold ms_law_draw
  apply CSs.cons
  all_goals (repeat' (first
    | with_reducible exact CSs.nil | with_reducible apply CSs.cons | with_reducible exact CEs.nil | with_reducible apply CEs.cons | with_reducible exact CC.none | with_reducible apply CC.some
    | with_reducible apply CS.sets | with_reducible apply CS.setItem | with_reducible apply CS.app | with_reducible apply CS.rem
    | with_reducible apply CS.cond | with_reducible apply CS.loop | with_reducible apply CS.each | with_reducible apply CS.ret | with_reducible exact CS.stop
    | with_reducible apply CT.cmp | with_reducible apply CT.bool | with_reducible refine CT.call (by decide +kernel) ?_ | with_reducible apply CTl.and | with_reducible apply CTl.or | with_reducible apply CTl.one
    | with_reducible apply CE.var | with_reducible apply CE.glob | with_reducible exact CE.int | with_reducible exact CE.bool | with_reducible apply CE.neg | with_reducible apply CE.bin | with_reducible apply CE.cmp | with_reducible apply CE.and | with_reducible apply CE.ite
    | with_reducible apply CE.idx | with_reducible apply CE.upto | with_reducible apply CE.from' | with_reducible apply CE.rev | with_reducible apply CE.tup | with_reducible apply CE.lst | with_reducible apply CE.mlst | with_reducible apply CE.mrep | with_reducible apply CE.mcopy
    | with_reducible apply CE.call | with_reducible apply CE.blt | with_reducible apply comp_of | with_reducible exact CE.stop
    | with_reducible apply CI.range | with_reducible apply CI.enum | with_reducible apply CI.val
    | with_reducible exact Tgt.one | with_reducible exact Tgt.two | with_reducible exact Nms.nil | with_reducible apply Nms.cons
    | with_reducible refine CS.set (by decide +kernel) (by decide +kernel) ?_ | with_reducible refine CS.setc (by decide +kernel) (by decide +kernel) ?_ ?_
    | with_reducible rfl
    | (intro h; cases h; done)
    | exact fun _ h1 h2 => swaps_yes h1 h2 (by decide +kernel) (by decide +kernel)
    | exact fun _ => rfl
    | exact fun _ => ⟨_, rfl⟩
    | exact fun _ _ => rfl
    | decide +kernel
    | refine ⟨rfl, by decide +kernel, by decide +kernel, by decide +kernel, by decide +kernel⟩))
set_option maxRecDepth 100000 in
theorem cs_law_row : CSs T (cxOf 24 sl_law_row) (bodyOf (defAt 24)) ms_law_row := by
  unfold ms_law_row
  apply CSs.cons
  all_goals (repeat' (first
    | with_reducible exact CSs.nil | with_reducible apply CSs.cons | with_reducible exact CEs.nil | with_reducible apply CEs.cons | with_reducible exact CC.none | with_reducible apply CC.some
    | with_reducible apply CS.sets | with_reducible apply CS.setItem | with_reducible apply CS.app | with_reducible apply CS.rem
    | with_reducible apply CS.cond | with_reducible apply CS.loop | with_reducible apply CS.each | with_reducible apply CS.ret | with_reducible exact CS.stop
    | with_reducible apply CT.cmp | with_reducible apply CT.bool | with_reducible refine CT.call (by decide +kernel) ?_ | with_reducible apply CTl.and | with_reducible apply CTl.or | with_reducible apply CTl.one
    | with_reducible apply CE.var | with_reducible apply CE.glob | with_reducible exact CE.int | with_reducible exact CE.bool | with_reducible apply CE.neg | with_reducible apply CE.bin | with_reducible apply CE.cmp | with_reducible apply CE.and | with_reducible apply CE.ite
    | with_reducible apply CE.idx | with_reducible apply CE.upto | with_reducible apply CE.from' | with_reducible apply CE.rev | with_reducible apply CE.tup | with_reducible apply CE.lst | with_reducible apply CE.mlst | with_reducible apply CE.mrep | with_reducible apply CE.mcopy
    | with_reducible apply CE.call | with_reducible apply CE.blt | with_reducible apply comp_of | with_reducible exact CE.stop
    | with_reducible apply CI.range | with_reducible apply CI.enum | with_reducible apply CI.val
    | with_reducible exact Tgt.one | with_reducible exact Tgt.two | with_reducible exact Nms.nil | with_reducible apply Nms.cons
    | with_reducible refine CS.set (by decide +kernel) (by decide +kernel) ?_ | with_reducible refine CS.setc (by decide +kernel) (by decide +kernel) ?_ ?_
    | with_reducible rfl
    | (intro h; cases h; done)
    | exact fun _ h1 h2 => swaps_yes h1 h2 (by decide +kernel) (by decide +kernel)
    | exact fun _ => rfl
    | exact fun _ => ⟨_, rfl⟩
    | exact fun _ _ => rfl
    | decide +kernel
    | refine ⟨rfl, by decide +kernel, by decide +kernel, by decide +kernel, by decide +kernel⟩))
set_option maxRecDepth 100000 in
theorem cs_law_product : CSs T (cxOf 25 sl_law_product) (bodyOf (defAt 25)) ms_law_product := by
  unfold ms_law_product
  apply CSs.cons
  all_goals (repeat' (first
    | with_reducible exact CSs.nil | with_reducible apply CSs.cons | with_reducible exact CEs.nil | with_reducible apply CEs.cons | with_reducible exact CC.none | with_reducible apply CC.some
    | with_reducible apply CS.sets | with_reducible apply CS.setItem | with_reducible apply CS.app | with_reducible apply CS.rem
    | with_reducible apply CS.cond | with_reducible apply CS.loop | with_reducible apply CS.each | with_reducible apply CS.ret | with_reducible exact CS.stop
    | with_reducible apply CT.cmp | with_reducible apply CT.bool | with_reducible refine CT.call (by decide +kernel) ?_ | with_reducible apply CTl.and | with_reducible apply CTl.or | with_reducible apply CTl.one
    | with_reducible apply CE.var | with_reducible apply CE.glob | with_reducible exact CE.int | with_reducible exact CE.bool | with_reducible apply CE.neg | with_reducible apply CE.bin | with_reducible apply CE.cmp | with_reducible apply CE.and | with_reducible apply CE.ite
    | with_reducible apply CE.idx | with_reducible apply CE.upto | with_reducible apply CE.from' | with_reducible apply CE.rev | with_reducible apply CE.tup | with_reducible apply CE.lst | with_reducible apply CE.mlst | with_reducible apply CE.mrep | with_reducible apply CE.mcopy
    | with_reducible apply CE.call | with_reducible apply CE.blt | with_reducible apply comp_of | with_reducible exact CE.stop
    | with_reducible apply CI.range | with_reducible apply CI.enum | with_reducible apply CI.val
    | with_reducible exact Tgt.one | with_reducible exact Tgt.two | with_reducible exact Nms.nil | with_reducible apply Nms.cons
    | with_reducible refine CS.set (by decide +kernel) (by decide +kernel) ?_ | with_reducible refine CS.setc (by decide +kernel) (by decide +kernel) ?_ ?_
    | with_reducible rfl
    | (intro h; cases h; done)
    | exact fun _ h1 h2 => swaps_yes h1 h2 (by decide +kernel) (by decide +kernel)
    | exact fun _ => rfl
    | exact fun _ => ⟨_, rfl⟩
    | exact fun _ _ => rfl
    | decide +kernel
    | refine ⟨rfl, by decide +kernel, by decide +kernel, by decide +kernel, by decide +kernel⟩))
set_option maxRecDepth 100000 in
theorem cs_law_lots : CSs T (cxOf 26 sl_law_lots) (bodyOf (defAt 26)) ms_law_lots := by
  unfold ms_law_lots
  apply CSs.cons
  all_goals (repeat' (first
    | with_reducible exact CSs.nil | with_reducible apply CSs.cons | with_reducible exact CEs.nil | with_reducible apply CEs.cons | with_reducible exact CC.none | with_reducible apply CC.some
    | with_reducible apply CS.sets | with_reducible apply CS.setItem | with_reducible apply CS.app | with_reducible apply CS.rem
    | with_reducible apply CS.cond | with_reducible apply CS.loop | with_reducible apply CS.each | with_reducible apply CS.ret | with_reducible exact CS.stop
    | with_reducible apply CT.cmp | with_reducible apply CT.bool | with_reducible refine CT.call (by decide +kernel) ?_ | with_reducible apply CTl.and | with_reducible apply CTl.or | with_reducible apply CTl.one
    | with_reducible apply CE.var | with_reducible apply CE.glob | with_reducible exact CE.int | with_reducible exact CE.bool | with_reducible apply CE.neg | with_reducible apply CE.bin | with_reducible apply CE.cmp | with_reducible apply CE.and | with_reducible apply CE.ite
    | with_reducible apply CE.idx | with_reducible apply CE.upto | with_reducible apply CE.from' | with_reducible apply CE.rev | with_reducible apply CE.tup | with_reducible apply CE.lst | with_reducible apply CE.mlst | with_reducible apply CE.mrep | with_reducible apply CE.mcopy
    | with_reducible apply CE.call | with_reducible apply CE.blt | with_reducible apply comp_of | with_reducible exact CE.stop
    | with_reducible apply CI.range | with_reducible apply CI.enum | with_reducible apply CI.val
    | with_reducible exact Tgt.one | with_reducible exact Tgt.two | with_reducible exact Nms.nil | with_reducible apply Nms.cons
    | with_reducible refine CS.set (by decide +kernel) (by decide +kernel) ?_ | with_reducible refine CS.setc (by decide +kernel) (by decide +kernel) ?_ ?_
    | with_reducible rfl
    | (intro h; cases h; done)
    | exact fun _ h1 h2 => swaps_yes h1 h2 (by decide +kernel) (by decide +kernel)
    | exact fun _ => rfl
    | exact fun _ => ⟨_, rfl⟩
    | exact fun _ _ => rfl
    | decide +kernel
    | refine ⟨rfl, by decide +kernel, by decide +kernel, by decide +kernel, by decide +kernel⟩))
set_option maxRecDepth 100000 in
theorem cs_law_joined : CSs T (cxOf 27 sl_law_joined) (bodyOf (defAt 27)) ms_law_joined := by
  unfold ms_law_joined
  apply CSs.cons
  all_goals (repeat' (first
    | with_reducible exact CSs.nil | with_reducible apply CSs.cons | with_reducible exact CEs.nil | with_reducible apply CEs.cons | with_reducible exact CC.none | with_reducible apply CC.some
    | with_reducible apply CS.sets | with_reducible apply CS.setItem | with_reducible apply CS.app | with_reducible apply CS.rem
    | with_reducible apply CS.cond | with_reducible apply CS.loop | with_reducible apply CS.each | with_reducible apply CS.ret | with_reducible exact CS.stop
    | with_reducible apply CT.cmp | with_reducible apply CT.bool | with_reducible refine CT.call (by decide +kernel) ?_ | with_reducible apply CTl.and | with_reducible apply CTl.or | with_reducible apply CTl.one
    | with_reducible apply CE.var | with_reducible apply CE.glob | with_reducible exact CE.int | with_reducible exact CE.bool | with_reducible apply CE.neg | with_reducible apply CE.bin | with_reducible apply CE.cmp | with_reducible apply CE.and | with_reducible apply CE.ite
    | with_reducible apply CE.idx | with_reducible apply CE.upto | with_reducible apply CE.from' | with_reducible apply CE.rev | with_reducible apply CE.tup | with_reducible apply CE.lst | with_reducible apply CE.mlst | with_reducible apply CE.mrep | with_reducible apply CE.mcopy
    | with_reducible apply CE.call | with_reducible apply CE.blt | with_reducible apply comp_of | with_reducible exact CE.stop
    | with_reducible apply CI.range | with_reducible apply CI.enum | with_reducible apply CI.val
    | with_reducible exact Tgt.one | with_reducible exact Tgt.two | with_reducible exact Nms.nil | with_reducible apply Nms.cons
    | with_reducible refine CS.set (by decide +kernel) (by decide +kernel) ?_ | with_reducible refine CS.setc (by decide +kernel) (by decide +kernel) ?_ ?_
    | with_reducible rfl
    | (intro h; cases h; done)
    | exact fun _ h1 h2 => swaps_yes h1 h2 (by decide +kernel) (by decide +kernel)
    | exact fun _ => rfl
    | exact fun _ => ⟨_, rfl⟩
    | exact fun _ _ => rfl
    | decide +kernel
    | refine ⟨rfl, by decide +kernel, by decide +kernel, by decide +kernel, by decide +kernel⟩))
set_option maxRecDepth 100000 in
theorem cs_law_often : CSs T (cxOf 28 sl_law_often) (bodyOf (defAt 28)) ms_law_often := by
  unfold ms_law_often
  apply CSs.cons
  all_goals (repeat' (first
    | with_reducible exact CSs.nil | with_reducible apply CSs.cons | with_reducible exact CEs.nil | with_reducible apply CEs.cons | with_reducible exact CC.none | with_reducible apply CC.some
    | with_reducible apply CS.sets | with_reducible apply CS.setItem | with_reducible apply CS.app | with_reducible apply CS.rem
    | with_reducible apply CS.cond | with_reducible apply CS.loop | with_reducible apply CS.each | with_reducible apply CS.ret | with_reducible exact CS.stop
    | with_reducible apply CT.cmp | with_reducible apply CT.bool | with_reducible refine CT.call (by decide +kernel) ?_ | with_reducible apply CTl.and | with_reducible apply CTl.or | with_reducible apply CTl.one
    | with_reducible apply CE.var | with_reducible apply CE.glob | with_reducible exact CE.int | with_reducible exact CE.bool | with_reducible apply CE.neg | with_reducible apply CE.bin | with_reducible apply CE.cmp | with_reducible apply CE.and | with_reducible apply CE.ite
    | with_reducible apply CE.idx | with_reducible apply CE.upto | with_reducible apply CE.from' | with_reducible apply CE.rev | with_reducible apply CE.tup | with_reducible apply CE.lst | with_reducible apply CE.mlst | with_reducible apply CE.mrep | with_reducible apply CE.mcopy
    | with_reducible apply CE.call | with_reducible apply CE.blt | with_reducible apply comp_of | with_reducible exact CE.stop
    | with_reducible apply CI.range | with_reducible apply CI.enum | with_reducible apply CI.val
    | with_reducible exact Tgt.one | with_reducible exact Tgt.two | with_reducible exact Nms.nil | with_reducible apply Nms.cons
    | with_reducible refine CS.set (by decide +kernel) (by decide +kernel) ?_ | with_reducible refine CS.setc (by decide +kernel) (by decide +kernel) ?_ ?_
    | with_reducible rfl
    | (intro h; cases h; done)
    | exact fun _ h1 h2 => swaps_yes h1 h2 (by decide +kernel) (by decide +kernel)
    | exact fun _ => rfl
    | exact fun _ => ⟨_, rfl⟩
    | exact fun _ _ => rfl
    | decide +kernel
    | refine ⟨rfl, by decide +kernel, by decide +kernel, by decide +kernel, by decide +kernel⟩))
set_option maxRecDepth 100000 in
theorem cs_law_side : CSs T (cxOf 29 sl_law_side) (bodyOf (defAt 29)) ms_law_side := by
  unfold ms_law_side
  apply CSs.cons
  all_goals (repeat' (first
    | with_reducible exact CSs.nil | with_reducible apply CSs.cons | with_reducible exact CEs.nil | with_reducible apply CEs.cons | with_reducible exact CC.none | with_reducible apply CC.some
    | with_reducible apply CS.sets | with_reducible apply CS.setItem | with_reducible apply CS.app | with_reducible apply CS.rem
    | with_reducible apply CS.cond | with_reducible apply CS.loop | with_reducible apply CS.each | with_reducible apply CS.ret | with_reducible exact CS.stop
    | with_reducible apply CT.cmp | with_reducible apply CT.bool | with_reducible refine CT.call (by decide +kernel) ?_ | with_reducible apply CTl.and | with_reducible apply CTl.or | with_reducible apply CTl.one
    | with_reducible apply CE.var | with_reducible apply CE.glob | with_reducible exact CE.int | with_reducible exact CE.bool | with_reducible apply CE.neg | with_reducible apply CE.bin | with_reducible apply CE.cmp | with_reducible apply CE.and | with_reducible apply CE.ite
    | with_reducible apply CE.idx | with_reducible apply CE.upto | with_reducible apply CE.from' | with_reducible apply CE.rev | with_reducible apply CE.tup | with_reducible apply CE.lst | with_reducible apply CE.mlst | with_reducible apply CE.mrep | with_reducible apply CE.mcopy
    | with_reducible apply CE.call | with_reducible apply CE.blt | with_reducible apply comp_of | with_reducible exact CE.stop
    | with_reducible apply CI.range | with_reducible apply CI.enum | with_reducible apply CI.val
    | with_reducible exact Tgt.one | with_reducible exact Tgt.two | with_reducible exact Nms.nil | with_reducible apply Nms.cons
    | with_reducible refine CS.set (by decide +kernel) (by decide +kernel) ?_ | with_reducible refine CS.setc (by decide +kernel) (by decide +kernel) ?_ ?_
    | with_reducible rfl
    | (intro h; cases h; done)
    | exact fun _ h1 h2 => swaps_yes h1 h2 (by decide +kernel) (by decide +kernel)
    | exact fun _ => rfl
    | exact fun _ => ⟨_, rfl⟩
    | exact fun _ _ => rfl
    | decide +kernel
    | refine ⟨rfl, by decide +kernel, by decide +kernel, by decide +kernel, by decide +kernel⟩))
set_option maxRecDepth 100000 in
theorem cs_law_mirror : CSs T (cxOf 30 sl_law_mirror) (bodyOf (defAt 30)) ms_law_mirror := by
  unfold ms_law_mirror
  apply CSs.cons
  all_goals (repeat' (first
    | with_reducible exact CSs.nil | with_reducible apply CSs.cons | with_reducible exact CEs.nil | with_reducible apply CEs.cons | with_reducible exact CC.none | with_reducible apply CC.some
    | with_reducible apply CS.sets | with_reducible apply CS.setItem | with_reducible apply CS.app | with_reducible apply CS.rem
    | with_reducible apply CS.cond | with_reducible apply CS.loop | with_reducible apply CS.each | with_reducible apply CS.ret | with_reducible exact CS.stop
    | with_reducible apply CT.cmp | with_reducible apply CT.bool | with_reducible refine CT.call (by decide +kernel) ?_ | with_reducible apply CTl.and | with_reducible apply CTl.or | with_reducible apply CTl.one
    | with_reducible apply CE.var | with_reducible apply CE.glob | with_reducible exact CE.int | with_reducible exact CE.bool | with_reducible apply CE.neg | with_reducible apply CE.bin | with_reducible apply CE.cmp | with_reducible apply CE.and | with_reducible apply CE.ite
    | with_reducible apply CE.idx | with_reducible apply CE.upto | with_reducible apply CE.from' | with_reducible apply CE.rev | with_reducible apply CE.tup | with_reducible apply CE.lst | with_reducible apply CE.mlst | with_reducible apply CE.mrep | with_reducible apply CE.mcopy
    | with_reducible apply CE.call | with_reducible apply CE.blt | with_reducible apply comp_of | with_reducible exact CE.stop
    | with_reducible apply CI.range | with_reducible apply CI.enum | with_reducible apply CI.val
    | with_reducible exact Tgt.one | with_reducible exact Tgt.two | with_reducible exact Nms.nil | with_reducible apply Nms.cons
    | with_reducible refine CS.set (by decide +kernel) (by decide +kernel) ?_ | with_reducible refine CS.setc (by decide +kernel) (by decide +kernel) ?_ ?_
    | with_reducible rfl
    | (intro h; cases h; done)
    | exact fun _ h1 h2 => swaps_yes h1 h2 (by decide +kernel) (by decide +kernel)
    | exact fun _ => rfl
    | exact fun _ => ⟨_, rfl⟩
    | exact fun _ _ => rfl
    | decide +kernel
    | refine ⟨rfl, by decide +kernel, by decide +kernel, by decide +kernel, by decide +kernel⟩))
set_option maxRecDepth 100000 in
theorem cs_law : CSs T (cxOf 31 sl_law) (bodyOf (defAt 31)) ms_law := by
  unfold ms_law
  apply CSs.cons
  all_goals (repeat' (first
    | with_reducible exact CSs.nil | with_reducible apply CSs.cons | with_reducible exact CEs.nil | with_reducible apply CEs.cons | with_reducible exact CC.none | with_reducible apply CC.some
    | with_reducible apply CS.sets | with_reducible apply CS.setItem | with_reducible apply CS.app | with_reducible apply CS.rem
    | with_reducible apply CS.cond | with_reducible apply CS.loop | with_reducible apply CS.each | with_reducible apply CS.ret | with_reducible exact CS.stop
    | with_reducible apply CT.cmp | with_reducible apply CT.bool | with_reducible refine CT.call (by decide +kernel) ?_ | with_reducible apply CTl.and | with_reducible apply CTl.or | with_reducible apply CTl.one
    | with_reducible apply CE.var | with_reducible apply CE.glob | with_reducible exact CE.int | with_reducible exact CE.bool | with_reducible apply CE.neg | with_reducible apply CE.bin | with_reducible apply CE.cmp | with_reducible apply CE.and | with_reducible apply CE.ite
    | with_reducible apply CE.idx | with_reducible apply CE.upto | with_reducible apply CE.from' | with_reducible apply CE.rev | with_reducible apply CE.tup | with_reducible apply CE.lst | with_reducible apply CE.mlst | with_reducible apply CE.mrep | with_reducible apply CE.mcopy
    | with_reducible apply CE.call | with_reducible apply CE.blt | with_reducible apply comp_of | with_reducible exact CE.stop
    | with_reducible apply CI.range | with_reducible apply CI.enum | with_reducible apply CI.val
    | with_reducible exact Tgt.one | with_reducible exact Tgt.two | with_reducible exact Nms.nil | with_reducible apply Nms.cons
    | with_reducible refine CS.set (by decide +kernel) (by decide +kernel) ?_ | with_reducible refine CS.setc (by decide +kernel) (by decide +kernel) ?_ ?_
    | with_reducible rfl
    | (intro h; cases h; done)
    | exact fun _ h1 h2 => swaps_yes h1 h2 (by decide +kernel) (by decide +kernel)
    | exact fun _ => rfl
    | exact fun _ => ⟨_, rfl⟩
    | exact fun _ _ => rfl
    | decide +kernel
    | refine ⟨rfl, by decide +kernel, by decide +kernel, by decide +kernel, by decide +kernel⟩))
end Mine


namespace Mine

/-- the lists may as well be read so -/
noncomputable def Reads (O : Nat → D) (σ σ' : Store) : Prop := σ.length = σ'.length ∧ ∀ (i : Nat) l l', σ[i]? = some l → σ'[i]? = some l' → ∀ (Z : Zd) vs, RDs O Z vs l → RDs O Z vs l'

/-- the slots may as well be read so, or be forgotten -/
noncomputable def Words (O : Nat → D) (ρ ρ1 : Rho) : Prop := ρ.length = ρ1.length ∧ ∀ (i : Nat) w', ρ1[i]? = some (some w') → ∃ w, ρ[i]? = some (some w) ∧ ∀ (Z : Zd) α v, RW O Z α v w → RW O Z α v w'

section
variable {O : Nat → D} {T : Tb} {B : Heap} {prog : Program} {w : World} {b : Nat}
variable {F : Nat → FnT} {G : Nat → Option D} {srt : List D → Option (List D)} {mg mb : Str → Option Value} {r : EvT}
variable {A : Around} {s : Shared} {env : Env} {Z : Zd} {α : List Addr} {σ σ' : Store} {ρ ρ' : Rho} {C : Cx} {E : Value → Shared → Prop} {fl : Fl} {Q : Flow → Shared → Prop}

theorem Inv.read {σ1 : Store} {h : Heap} (I : Inv O B Z α σ h) (e : Reads O σ σ1) : Inv O B Z α σ1 h := by
  refine ⟨I.base, I.led, I.len.trans e.1, fun i a l e1 e2 => ?_, I.apart, I.nodup⟩
  have hi : i < σ.length := by rw [e.1]; exact (List.getElem?_eq_some_iff.mp e2).1
  obtain ⟨vs, n, g, r⟩ := I.cell i a _ e1 (List.getElem?_eq_getElem hi)
  exact ⟨vs, n, g, e.2 i _ l (List.getElem?_eq_getElem hi) e2 Z vs r⟩
theorem Ext.read {X : Addr → Prop} {h h' : Heap} {Z' : Zd} {α' : List Addr} {σ1 : Store} (x : Ext O B X Z α h Z' α' σ' h') (e : Reads O σ' σ1) : Ext O B X Z α h Z' α' σ1 h' :=
  ⟨x.sub, x.new, x.keep, x.live, x.pre, x.inv.read e⟩

noncomputable def Only (F : Nat → FnT) : (Nat → FnT) → Prop := fun F' => F' = F
theorem only {F : Nat → FnT} : Only F F := rfl

/-- a body runs, statement by statement, each with its own fuel -/
inductive Runs (P : (Nat → FnT) → Prop) (G : Nat → Option D) (srt : List D → Option (List D)) (O : Nat → D) : Store → Rho → List MS → Fl → Rho → Store → Prop
  | nil {σ : Store} {ρ : Rho} : Runs P G srt O σ ρ [] .next ρ σ
  | next {F : Nat → FnT} {σ σ1 σ' : Store} {ρ ρ1 ρ' : Rho} {m : MS} {l : List MS} {fl : Fl} (n : Nat) (hF : P F) : ex1 (evE F G srt n) (exS F G srt n) σ ρ m = some (.next, ρ1, σ1) → Runs P G srt O σ1 ρ1 l fl ρ' σ' → Runs P G srt O σ ρ (m :: l) fl ρ' σ'
  | ret {F : Nat → FnT} {σ σ' : Store} {ρ ρ' : Rho} {m : MS} {l : List MS} {w : W} (n : Nat) (hF : P F) : ex1 (evE F G srt n) (exS F G srt n) σ ρ m = some (.ret w, ρ', σ') → Runs P G srt O σ ρ (m :: l) (.ret w) ρ' σ'
  | read {σ σ1 σ' : Store} {ρ ρ' : Rho} {l : List MS} {fl : Fl} : Reads O σ σ1 → Runs P G srt O σ1 ρ l fl ρ' σ' → Runs P G srt O σ ρ l fl ρ' σ'
  | word {σ σ' : Store} {ρ ρ1 ρ' : Rho} {l : List MS} {fl : Fl} : Words O ρ ρ1 → Runs P G srt O σ ρ1 l fl ρ' σ' → Runs P G srt O σ ρ l fl ρ' σ'
  | frame {σ σ' : Store} {ρ ρ' : Rho} {l : List MS} {x : D} : (∀ (i j : Nat), ρ[i]? ≠ some (some (.m j))) → Runs P G srt O [] ρ l (.ret (.d x)) ρ' σ' → Runs P G srt O σ ρ l (.ret (.d x)) (ρ'.map fun _ => none) (σ ++ σ')
  | back {σ σ1 σ' : Store} {ρ ρ' : Rho} {l : List MS} {fl : Fl} : Reads O σ1 σ' → Runs P G srt O σ ρ l fl ρ' σ1 → Runs P G srt O σ ρ l fl ρ' σ'

variable {P : (Nat → FnT) → Prop}
theorem runs_of (hF : P F) : ∀ (n : Nat) (ms : List MS) (σ σ' : Store) (ρ ρ' : Rho) (fl : Fl), exS F G srt n σ ρ ms = some (fl, ρ', σ') → Runs P G srt O σ ρ ms fl ρ' σ'
  | 0, _, _, _, _, _, _, h => by simp [exS] at h
  | n + 1, [], _, _, _, _, _, h => by simp only [exS] at h; cases h; exact .nil
  | n + 1, m :: l, σ, σ', ρ, ρ', fl, h => by
    simp only [exS] at h
    obtain ⟨q, hq, h⟩ := b2 h
    obtain ⟨f, ρ1, σ1⟩ := q
    cases f with
    | next => exact .next n hF hq (runs_of hF n l σ1 σ' ρ1 ρ' fl h)
    | ret x => simp only at h; cases h; exact .ret n hF hq
/-- a stretch of a body in one -/
theorem runs_app (hF : P F) : ∀ (n : Nat) (ms : List MS) (l : List MS) (σ σ1 σ' : Store) (ρ ρ1 ρ' : Rho) (fl : Fl), exS F G srt n σ ρ ms = some (.next, ρ1, σ1) → Runs P G srt O σ1 ρ1 l fl ρ' σ' → Runs P G srt O σ ρ (ms ++ l) fl ρ' σ'
  | 0, _, _, _, _, _, _, _, _, _, h, _ => by simp [exS] at h
  | n + 1, [], _, _, _, _, _, _, _, _, h, k => by simp only [exS] at h; cases h; exact k
  | n + 1, m :: ms, l, σ, σ1, σ', ρ, ρ1, ρ', fl, h, k => by
    simp only [exS] at h
    obtain ⟨q, hq, h⟩ := b2 h
    obtain ⟨f, ρ2, σ2⟩ := q
    cases f with
    | next => exact .next n hF hq (runs_app hF n ms l σ2 σ1 σ' ρ2 ρ1 ρ' fl h k)
    | ret x => simp only at h; cases h

theorem Frm.words {h : Heap} {ρ1 : Rho} (Fm : Frm O Z α C env ρ h) (e : Words O ρ ρ1) : Frm O Z α C env ρ1 h := by
  obtain ⟨m, hn, hm⟩ := Fm.ns
  refine ⟨Fm.kind, Fm.glb, Fm.blt, Fm.kl, Fm.kg, Fm.kc, Fm.kf, ⟨m, hn, fun i x w' e1 e2 e3 => ?_⟩, Fm.cs, fun i x w' c e1 e2 e3 e4 => ?_, Fm.lz, Fm.la, Fm.cz, Fm.inj, Fm.nd⟩
  · obtain ⟨w, q, r⟩ := e.2 i w' e2
    obtain ⟨v, q1, q2⟩ := hm i x w e1 q e3
    exact ⟨v, q1, r _ _ _ q2⟩
  · obtain ⟨w, q, r⟩ := e.2 i w' e2
    obtain ⟨v, q1, q2⟩ := Fm.cv i x w c e1 q e3 e4
    exact ⟨v, q1, r _ _ _ q2⟩
/-- the lists are put out of sight -/
theorem Inv.hide {h : Heap} (I : Inv O B Z α σ h) : Inv O B Z [] [] h := ⟨I.base, I.led, rfl, fun i a l e => by simp at e, fun a h => (nomatch h), .nil⟩
theorem Frm.hide {h : Heap} (Fm : Frm O Z α C env ρ h) (hm : ∀ (i j : Nat), ρ[i]? ≠ some (some (.m j))) : Frm O Z [] C env ρ h := by
  have rw' : ∀ {i : Nat} {v : Value} {w : W}, ρ[i]? = some (some w) → RW O Z α v w → RW O Z [] v w := fun e r => by
    cases r with
    | d r => exact .d r
    | m _ => exact absurd e (hm _ _)
  obtain ⟨m, hn, hm'⟩ := Fm.ns
  refine ⟨Fm.kind, Fm.glb, Fm.blt, Fm.kl, Fm.kg, Fm.kc, Fm.kf, ⟨m, hn, fun i x w e1 e2 e3 => ?_⟩, Fm.cs, fun i x w c e1 e2 e3 e4 => ?_, Fm.lz, by simp, fun x c e => ?_, Fm.inj, Fm.nd⟩
  · obtain ⟨v, q1, q2⟩ := hm' i x w e1 e2 e3
    exact ⟨v, q1, rw' e2 q2⟩
  · obtain ⟨v, q1, q2⟩ := Fm.cv i x w c e1 e2 e3 e4
    exact ⟨v, q1, rw' e2 q2⟩
  · obtain ⟨q1, _, q3, q4⟩ := Fm.cz x c e
    exact ⟨q1, by simp, q3, q4⟩
theorem FX.off {h : Heap} (Fm : Frm O Z α C env ρ h) {a : Addr} (x : FX C env a) : a ∉ α ∧ (∀ o, ¬ Z a o) := by
  rcases x with rfl | ⟨x, _, e⟩
  · exact ⟨Fm.la, Fm.lz⟩
  · exact ⟨(Fm.cz x a e).2.1, (Fm.cz x a e).1⟩
/-- and are back, as they were -/
theorem Ext.framed {h h' : Heap} {Z' : Zd} {α' : List Addr} (I : Inv O B Z α σ h) (Fm : Frm O Z α C env ρ h) (F' : Frm O Z' α' C env ρ' h') (x : Ext O B (FX C env) Z [] h Z' α' σ' h') : Ext O B (FX C env) Z α h Z' (α ++ α') (σ ++ σ') h' := by
  obtain ⟨β, hb, hβ⟩ := x.pre
  have hb' : α' = β := by simpa using hb
  subst hb'
  have old : ∀ a ∈ α, ∃ o, h.get? a = some o := fun a ha => I.live ha
  have nx : ∀ a ∈ α, ¬ FX C env a := fun a ha q => (FX.off Fm q).1 ha
  refine ⟨x.sub, x.new, fun a o n1 n2 e => x.keep a o (by simp) n2 e, x.live, ⟨α', rfl, hβ⟩, ⟨x.inv.base, x.inv.led, by rw [List.length_append, List.length_append, I.len, x.inv.len], fun i a l e1 e2 => ?_, fun a ha o z => ?_, ?_⟩⟩
  · by_cases hi : i < α.length
    · rw [List.getElem?_append_left hi] at e1
      rw [List.getElem?_append_left (by rw [← I.len]; exact hi)] at e2
      obtain ⟨vs, n, g, r⟩ := I.cell i a l e1 e2
      exact ⟨vs, n, x.keep a _ (by simp) (nx a (List.mem_of_getElem? e1)) g, r.mono x.sub⟩
    · rw [List.getElem?_append_right (Nat.le_of_not_lt hi)] at e1
      rw [List.getElem?_append_right (by rw [← I.len]; exact Nat.le_of_not_lt hi), ← I.len] at e2
      exact x.inv.cell _ a l e1 e2
  · rcases List.mem_append.mp ha with q | q
    · rcases x.new a o z with z | z | z
      · exact I.apart a q o z
      · obtain ⟨o', e⟩ := old a q; exact not_some_none z e
      · exact nx a q z
    · exact x.inv.apart a q o z
  · refine List.nodup_append.mpr ⟨I.nodup, x.inv.nodup, fun a ha b hb e => ?_⟩
    subst e
    rcases hβ a hb with d | d
    · obtain ⟨o', e⟩ := old a ha; exact not_some_none d e
    · exact nx a ha d
theorem Frm.framed {h h' : Heap} {Z' : Zd} {α' : List Addr} (I : Inv O B Z α σ h) (Fm : Frm O Z α C env ρ h) (F' : Frm O Z' α' C env ρ' h') : Frm O Z' (α ++ α') C env (ρ'.map fun _ => none) h' := by
  obtain ⟨m, hn, hm'⟩ := F'.ns
  have no : ∀ {i : Nat} {w : W}, (ρ'.map fun _ => (none : Option W))[i]? = some (some w) → False := fun {i w} e => by
    rw [List.getElem?_map] at e
    cases q : ρ'[i]? with
    | none => rw [q] at e; cases e
    | some y => rw [q] at e; cases e
  refine ⟨F'.kind, F'.glb, F'.blt, F'.kl, F'.kg, F'.kc, F'.kf, ⟨m, hn, fun i x w e1 e2 e3 => (no e2).elim⟩, F'.cs, fun i x w c e1 e2 e3 e4 => (no e2).elim, F'.lz, fun q => ?_, fun x c e => ?_, F'.inj, F'.nd⟩
  · rcases List.mem_append.mp q with q | q
    · exact Fm.la q
    · exact F'.la q
  · obtain ⟨q1, q2, q3, q4⟩ := F'.cz x c e
    refine ⟨q1, fun q => ?_, q3, q4⟩
    rcases List.mem_append.mp q with q | q
    · exact (Fm.cz x c e).2.1 q
    · exact q2 q

theorem sndR (Gd : ∀ F, P F → Gl O T B prog w b F G srt mg mb) (rm : Room A b) {ms : List MS} (hr : Runs P G srt O σ ρ ms fl ρ' σ') : ∀ (sts : List PySem.Stmt), CSs T C sts ms → ∀ (s : Shared) (Z : Zd) (α : List Addr) (Q : Flow → Shared → Prop), Inv O B Z α σ s.heap →
    Frm O Z α C env ρ s.heap → ρ.length = C.xs.length → KS O B C env Z α s σ' ρ' fl Q → wpAny (model prog w) A (execs sts env) Q E s := by
  induction hr with
  | nil =>
    intro sts hC s Z α Q I Fm hl K
    cases hC
    exact wpAny_execs_nil (K s.heap s.toks Z α .next (Ext.refl I) Fm hl trivial)
  | next n hF h _ ih =>
    intro sts hC s Z α Q I Fm hl K
    cases hC with
    | cons h1 h2 =>
      refine wpAny_execs_cons (snd1 (Gd _ hF) n (fun j _ => sndS (Gd _ hF) j) rm h1 I Fm hl h fun h' tk Z' α' f' x1 F1 l1 ok => ?_)
      rcases flow_ok ok with ⟨_, rfl⟩ | ⟨v', y, e, _⟩
      · exact ih _ h2 _ Z' α' _ x1.inv F1 l1 (K.after x1)
      · cases e
  | ret n hF h =>
    intro sts hC s Z α Q I Fm hl K
    cases hC with
    | cons h1 h2 =>
      refine wpAny_execs_cons (snd1 (Gd _ hF) n (fun j _ => sndS (Gd _ hF) j) rm h1 I Fm hl h fun h' tk Z' α' f' x1 F1 l1 ok => ?_)
      rcases flow_ok ok with ⟨e, _⟩ | ⟨v', y, e, rfl, ry⟩
      · cases e
      · cases e; exact K h' tk Z' α' (.ret v') x1 F1 l1 ry
  | read e _ ih =>
    intro sts hC s Z α Q I Fm hl K
    exact ih sts hC s Z α Q (I.read e) Fm hl K
  | word e _ ih =>
    intro sts hC s Z α Q I Fm hl K
    exact ih sts hC s Z α Q I (Fm.words e) (by rw [← e.1]; exact hl) K
  | frame hm _ ih =>
    intro sts hC s Z α Q I Fm hl K
    refine ih sts hC s Z [] Q I.hide (Fm.hide hm) hl fun h' tk Z' α' f x1 F1 l1 ok => ?_
    rcases flow_ok ok with ⟨e, _⟩ | ⟨v', y, e, rfl, ry⟩
    · cases e
    · cases e
      cases ry with
      | d ry => exact K h' tk Z' (α ++ α') (.ret v') (Ext.framed I Fm F1 x1) (Fm.framed I F1) (by simpa using l1) (RW.d ry)
  | back e _ ih =>
    intro sts hC s Z α Q I Fm hl K
    exact ih sts hC s Z α Q I Fm hl fun h' tk Z' α' f x1 F1 l1 ok => K h' tk Z' α' f (x1.read e) F1 l1 ok

/-- what a call of a def gives back -/
noncomputable def fnRes (σ : Store) (fl : Fl) (σ1 : Store) : Option (D × Store) := match fl with
  | .ret (.d x) => some (x, σ1.take σ.length)
  | .ret (.m i) => if σ.length ≤ i then (σ1[i]?).map fun l => (.lst l, σ1.take σ.length) else none
  | .next => none

noncomputable def FnRunP (P : (Nat → FnT) → Prop) (G : Nat → Option D) (srt : List D → Option (List D)) (O : Nat → D) (np slots : Nat) (ms : List MS) (pf : FnT) : Prop :=
  ∀ xs σ r σ', pf xs σ = some (r, σ') → xs.length = np ∧ ∃ fl ρ' σ1, Runs P G srt O σ (xs.map some ++ List.replicate (slots - xs.length) none) ms fl ρ' σ1 ∧ fnRes σ fl σ1 = some (r, σ')

abbrev FnRun (F : Nat → FnT) := FnRunP (Only F)

theorem fnRun_ex (n np slots : Nat) (ms : List MS) : FnRun F G srt O np slots ms (exFnF F G srt n np slots ms) := by
  intro xs σ r σ' h
  rw [← exFnF_eq] at h
  unfold fnChk at h
  split at h
  · rename_i hx
    refine ⟨hx, ?_⟩
    unfold exFn at h
    obtain ⟨q, hq, h⟩ := b2 h
    obtain ⟨f, ρ1, σ1⟩ := q
    refine ⟨f, ρ1, σ1, runs_of only n ms _ _ _ _ _ hq, ?_⟩
    cases f with
    | next => cases h
    | ret x => cases x <;> exact h
  · cases h

structure FnIs (B : Heap) (a : Addr) (T : Tb) (slots : List Str) (np : Nat) (ms : List MS) : Prop where
  is : ∃ o fd body, B.get? a = some o ∧ o.data = .func fd ∧ fd.body = .stmts body ∧ B.CodeRec fd.code fd.qualname ∧ fd.closure = [] ∧ fd.globals = mainGlobals ∧ fd.builtins = builtinsNs ∧
    (∀ vs : List Value, vs.length = np → bindArgs fd ⟨vs, []⟩ = pure ((slots.take np).zip vs)) ∧ fd.scope.isCoroutine = false ∧ fd.scope.isGenerator = false ∧ fd.scope.kind = .function ∧
    CSs T ⟨slots.map some, fd.scope.names⟩ body ms ∧ slots.Nodup ∧ np ≤ slots.length ∧ (∀ x, fd.scope.names.lookup x ≠ some .free) ∧ (∀ x ∈ slots.take np, fd.scope.names.lookup x = some .local ∨ fd.scope.names.lookup x = some .cell)

theorem fn_runP (Gd : ∀ F, P F → Gl O T B prog w b F G srt mg mb) (Gn : ∃ F, P F) {a : Addr} {slots : List Str} {np : Nat} {ms : List MS} {pf : FnT} (D0 : FnIs B a T slots np ms) (hrun : FnRunP P G srt O np slots.length ms pf) : FnOk O B prog w (b + 1) a pf := by
  obtain ⟨o, fd, body, ho, hd, hbody, hcd, hclo, hglb, hblt, hbind, hco, hgen, hk, hC, hnd, hnp, hfree, hpar⟩ := D0.is
  intro A s Z α σ σ' vs xs r R rm I rv he K
  obtain ⟨hxl, fl, ρ', σ1, hq, he⟩ := hrun xs σ r σ' he
  have hvl : vs.length = np := by rw [rv.length, hxl]
  have cellSome : ∀ x, fd.scope.names.lookup x = some .cell → ((cellsFrom (s.heap.objs.size + 1) fd.scope.names []).lookup x).isSome = true := fun x e => PySem.W.cellsFrom_some _ _ _ (.inl e)
  refine codeAny_call_cells (fd := fd) (vals := vs) (by have := rm.depth; omega) (I.led _ _ (I.base _ _ ho)) hd (Gn.elim fun F hF => (Gd F hF).nl.keeps fun a o e => I.led a o (I.base a o e)) (hcd.keeps fun a o e => I.led a o (I.base a o e)) hbody (hbind vs hvl) hclo (fun x hx => ?_) (fun s₁ X => ?_) hco hgen hk
  · have : x.1 ∈ slots.take np := zip_fst _ vs _ (List.mem_map_of_mem hx)
    rcases hpar _ this with h | h
    · exact .inl h
    · exact .inr ⟨h, cellSome _ h⟩
  · obtain ⟨h1, tk1, rfl⟩ := X.toInCall.same
    have keep1 : ∀ b o, s.heap.get? b = some o → h1.get? b = some o := X.toInCall.keep
    have x0 : Ext O B (fun a => s.heap.get? a = none) Z α s.heap Z α σ h1 := Ext.of_keeps I keep1
    have fr := fn_frame I rv hglb hblt hk hnd hnp hxl X hfree
    have fresh : ∀ c, s.heap.objs.size ≤ c → s.heap.get? c = none := fun c hc => by
      cases e : s.heap.get? c with
      | none => rfl
      | some o => exact absurd (Heap.lt_size e) (Nat.not_lt.mpr hc)
    refine sndR Gd rm.deeper hq body hC { s with heap := h1, toks := tk1 } Z α _ x0.inv fr (by simp; omega) fun h' tk' Z' α' f x1 F1 hl1 hf => ?_
    have x1' : Ext O B (fun a => s.heap.get? a = none) Z α h1 Z' α' σ1 h' := x1.weaken fun c o _ q => by
      rcases q with q | ⟨x, _, q⟩
      · rw [q]; exact fresh _ (Nat.le_refl _)
      · exact fresh _ (Nat.le_of_lt (X.above x c (mem_of_lookup q)))
    have x2 : Ext O B (fun _ => False) Z α s.heap Z' α' σ1 h' := (x0.trans x1').weaken fun c o e q => not_some_none q e
    have x3 := x2.drop I
    rcases flow_ok hf with ⟨rfl, rfl⟩ | ⟨v, x, rfl, rfl, rx⟩
    · cases he
    · cases rx with
      | d rd =>
        simp only [fnRes, Option.some.injEq, Prod.mk.injEq] at he
        obtain ⟨rfl, rfl⟩ := he
        exact K v h' tk' Z' x3 rd
      | @m i c hi =>
        simp only [fnRes] at he
        split at he
        · rename_i hge
          obtain ⟨l, hl, he⟩ := m2 he
          simp only [Prod.mk.injEq] at he
          obtain ⟨rfl, rfl⟩ := he
          obtain ⟨us, k, g, ru⟩ := x2.inv.cell i c l hi hl
          obtain ⟨β, rfl, hβ⟩ := x2.pre
          rw [List.getElem?_append_right (by rw [I.len]; exact hge)] at hi
          have hcβ := List.mem_of_getElem? hi
          have hn : s.heap.get? c = none := (hβ c hcβ).elim id False.elim
          have na : c ∉ α := fun q => by obtain ⟨o, e⟩ := I.live q; exact not_some_none hn e
          exact K _ h' tk' _ (x3.tell g na hn) (.lst (.inr ⟨rfl, rfl⟩) (ru.mono fun _ _ z => .inl z))
        · cases he
theorem fn_run (Gd : Gl O T B prog w b F G srt mg mb) {a : Addr} {slots : List Str} {np : Nat} {ms : List MS} {pf : FnT} (D0 : FnIs B a T slots np ms) (hrun : FnRun F G srt O np slots.length ms pf) : FnOk O B prog w (b + 1) a pf :=
  fn_runP (P := Only F) (fun _ e => e ▸ Gd) ⟨F, rfl⟩ D0 hrun
end
end Mine


namespace Mine

noncomputable def fnTab : Nat → Option (Nat × List Str × List MS)
  | 0 => some (2, sl_gcd, ms_gcd) | 2 => some (2, sl_rat, ms_rat) | 3 => some (2, sl_radd, ms_radd) | 4 => some (2, sl_rsub, ms_rsub) | 5 => some (2, sl_rmul, ms_rmul)
  | 6 => some (2, sl_rdiv, ms_rdiv) | 7 => some (1, sl_is_vast, ms_is_vast) | 8 => some (2, sl_cut, ms_cut) | 9 => some (1, sl_let, ms_let) | 10 => some (3, sl_mixed, ms_mixed) | 11 => some (2, sl_smul, ms_smul) | 12 => some (1, sl_sinverse, ms_sinverse)
  | 13 => some (2, sl_swhole_power, ms_swhole_power) | 14 => some (2, sl_law_draw, ms_law_draw) | 15 => some (2, sl_law_row, ms_law_row) | 16 => some (2, sl_law_product, ms_law_product) | 17 => some (2, sl_law_lots, ms_law_lots) | 18 => some (2, sl_law_joined, ms_law_joined) | 19 => some (1, sl_law_often, ms_law_often)
  | 20 => some (1, sl_law_side, ms_law_side) | 21 => some (1, sl_law_mirror, ms_law_mirror) | _ => none
noncomputable def G0 : Nat → Option D
  | 0 => some (.tup [.int 0, .int 1]) | 1 => some (.tup [.int 1, .int 1]) | _ => none

/-- a whole number as a ratio -/
noncomputable def zr (d : D) : Option Int := match d with
  | .tup [.int z, .int (.ofNat 1)] => some z
  | _ => none
noncomputable def rz (z : Int) : D := .tup [.int z, .int 1]
theorem zr_eq {d : D} {z : Int} (h : zr d = some z) : d = rz z := by
  unfold zr at h
  split at h
  · cases h; rfl
  · cases h
noncomputable def zrs : List D → Option (List Int)
  | [] => some []
  | d :: r => match zr d with
    | some z => (match zrs r with
      | some zs => some (z :: zs)
      | none => none)
    | none => none
theorem zrs_eq : ∀ {l : List D} {zs : List Int}, zrs l = some zs → l = zs.map rz
  | [], _, h => by cases h; rfl
  | d :: r, zs, h => by
    unfold zrs at h
    split at h
    · rename_i z hz
      split at h
      · rename_i ys hy
        cases h
        rw [List.map_cons, ← zr_eq hz, ← zrs_eq hy]
      · cases h
    · cases h

noncomputable def pGcd : FnT := fun ws σ => match ws with
  | [.d (.int _), .d (.int (.ofNat 1))] => some (.int 1, σ)
  | _ => none
noncomputable def pRat : FnT := fun ws σ => match ws with
  | [.d (.int z), .d (.int (.ofNat 1))] => some (rz z, σ)
  | _ => none
noncomputable def pOp (op : Int → Int → Int) (ok : Int → Int → Bool) : FnT := fun ws σ => match ws with
  | [.d a, .d b] => (match zr a, zr b with
    | some x, some y => if ok x y then some (rz (op x y), σ) else none
    | _, _ => none)
  | _ => none
noncomputable def pVast : FnT := fun ws σ => match ws with
  | [.d a] => (match zr a with
    | some x => if small x then some (.bool false, σ) else none
    | _ => none)
  | _ => none
noncomputable def pLet : FnT := fun ws σ => match ws with
  | [.d a] => (match zr a with
    | some x => if small x then some (rz x, σ) else none
    | _ => none)
  | _ => none

section
variable {F : Nat → FnT} {G : Nat → Option D} {srt : List D → Option (List D)} {n : Nat} {σ : Store} {ρ : Rho}
theorem e_var {i : Nat} : evE F G srt (n + 1) σ ρ (.var i) = match ρ[i]? with
      | some (some w) => some (w, σ)
      | _ => none := rfl
theorem e_glob {i : Nat} : evE F G srt (n + 1) σ ρ (.glob i) = (G i).map fun d => (.d d, σ) := rfl
theorem e_int {i : Int} : evE F G srt (n + 1) σ ρ (.int i) = some (.d (.int i), σ) := rfl
theorem e_bool {i : Bool} : evE F G srt (n + 1) σ ρ (.bool i) = some (.d (.bool i), σ) := rfl
theorem e_bin {o : Bop} {a b : ME} : evE F G srt (n + 1) σ ρ (.bin o a b) = (evE F G srt n σ ρ a).bind fun p => (evE F G srt n p.2 ρ b).bind fun q => (wD p.1).bind fun x => (wD q.1).bind fun y => (dBin o x y).map fun z => (.d z, q.2) := rfl
theorem e_cmp {o : Cop} {a b : ME} : evE F G srt (n + 1) σ ρ (.cmp o a b) = (evE F G srt n σ ρ a).bind fun p => (evE F G srt n p.2 ρ b).bind fun q => (wD p.1).bind fun x => (wD q.1).bind fun y => (dCmp o x y).map fun z => (.d (.bool z), q.2) := rfl
theorem e_and {a b : ME} : evE F G srt (n + 1) σ ρ (.and a b) = (evE F G srt n σ ρ a).bind fun p => (asTru p.1).bind fun x => if x then evE F G srt n p.2 ρ b else some (.d (.bool false), p.2) := rfl
theorem e_or {a b : ME} : evE F G srt (n + 1) σ ρ (.or a b) = (evE F G srt n σ ρ a).bind fun p => (asTru p.1).bind fun x => if x then some (.d (.bool true), p.2) else evE F G srt n p.2 ρ b := rfl
theorem e_ite {c a b : ME} : evE F G srt (n + 1) σ ρ (.ite c a b) = (evE F G srt n σ ρ c).bind fun p => (asTru p.1).bind fun x => if x then evE F G srt n p.2 ρ a else evE F G srt n p.2 ρ b := rfl
theorem e_idx {a i : ME} : evE F G srt (n + 1) σ ρ (.idx a i) = (evE F G srt n σ ρ a).bind fun p => (evE F G srt n p.2 ρ i).bind fun q => match p.1, q.1 with
      | .d (.tup l), .d (.int k) => (dIdx l k).map fun d => (.d d, q.2)
      | .d (.lst l), .d (.int k) => (dIdx l k).map fun d => (.d d, q.2)
      | .m j, .d (.int k) => (q.2[j]?).bind fun l => (dIdx l k).map fun d => (.d d, q.2)
      | _, _ => none := rfl
theorem e_tup {es : List ME} : evE F G srt (n + 1) σ ρ (.tup es) = (evL (evE F G srt n) ρ σ es).bind fun p => (wDs p.1).bind fun ds => if ds.length ≤ big then some (.d (.tup ds), p.2) else none := rfl
theorem e_mlst {es : List ME} : evE F G srt (n + 1) σ ρ (.mlst es) = (evL (evE F G srt n) ρ σ es).bind fun p => (wDs p.1).bind fun ds => if ds.length ≤ big then some (.m p.2.length, p.2 ++ [ds]) else none := rfl
theorem e_call {f : Nat} {es : List ME} : evE F G srt (n + 1) σ ρ (.call f es) = (evL (evE F G srt n) ρ σ es).bind fun p => (F f p.1 p.2).map fun q => (.d q.1, q.2) := rfl
theorem e_blt {b : Blt} {es : List ME} : evE F G srt (n + 1) σ ρ (.blt b es) = (evL (evE F G srt n) ρ σ es).bind fun p => (evBlt srt p.2 b p.1).map fun d => (.d d, p.2) := rfl
theorem e_upto {a i : ME} : evE F G srt (n + 1) σ ρ (.upto a i) = (evE F G srt n σ ρ a).bind fun p => (evE F G srt n p.2 ρ i).bind fun q => match q.1 with
      | .d (.int k) => (wList q.2 p.1).bind fun l => if 0 ≤ k && small k && decide (l.length ≤ big) then some (.d (.lst (l.take k.toNat)), q.2) else none
      | _ => none := rfl
theorem e_comp {elt : ME} {two : Bool} {k : IK} {args : List ME} {cond : Option ME} : evE F G srt (n + 1) σ ρ (.comp elt two k args cond) = (evI (evE F G srt n) σ ρ k args).bind fun p => (evC (evE F G srt n) ρ elt two p.2.1 cond p.2.2 p.1).map fun q => (.d (.lst q.1), q.2) := rfl
theorem l_nil {r : EvT} : evL r ρ σ [] = some ([], σ) := rfl
theorem l_cons {r : EvT} {e : ME} {es : List ME} : evL r ρ σ (e :: es) = (r σ ρ e).bind fun p => (evL r ρ p.2 es).map fun q => (p.1 :: q.1, q.2) := rfl
theorem s_nil : exS F G srt (n + 1) σ ρ [] = some (.next, ρ, σ) := rfl
theorem s_cons {m : MS} {l : List MS} : exS F G srt (n + 1) σ ρ (m :: l) = (ex1 (evE F G srt n) (exS F G srt n) σ ρ m).bind fun p => match p.1 with
    | .next => exS F G srt n p.2.2 p.2.1 l
    | .ret w => some (.ret w, p.2.1, p.2.2) := rfl
theorem x_set {r : EvT} {rs : ExT} {i : Nat} {e : ME} : ex1 r rs σ ρ (.set i e) = (r σ ρ e).bind fun p => if i < ρ.length then some (.next, ρ.set i (some p.1), p.2) else none := rfl
theorem x_ret {r : EvT} {rs : ExT} {e : ME} : ex1 r rs σ ρ (.ret e) = (r σ ρ e).map fun p => (.ret p.1, ρ, p.2) := rfl
theorem x_cond {r : EvT} {rs : ExT} {c : ME} {a b : List MS} : ex1 r rs σ ρ (.cond c a b) = (r σ ρ c).bind fun p => (asTru p.1).bind fun x => if x then rs p.2 ρ a else rs p.2 ρ b := rfl
theorem x_each {r : EvT} {rs : ExT} {tg : List Nat} {k : IK} {args : List ME} {b : List MS} : ex1 r rs σ ρ (.each tg k args b) = (evI r σ ρ k args).bind fun p => if tg.all fun i => decide (i < ρ.length) then exEach rs tg b p.2.1 p.2.2 ρ p.1 else none := rfl
theorem x_app {r : EvT} {rs : ExT} {i : Nat} {e : ME} : ex1 r rs σ ρ (.app i e) = (r σ ρ e).bind fun p => (wD p.1).bind fun x => match ρ[i]? with
    | some (some (.m j)) => (p.2[j]?).bind fun l => if l.length ≤ big then some (.next, ρ, p.2.set j (l ++ [x])) else none
    | _ => none := rfl
theorem x_loop {r : EvT} {rs : ExT} {c : ME} {b : List MS} : ex1 r rs σ ρ (.loop c b) = (r σ ρ c).bind fun p => (asTru p.1).bind fun x => if x then (rs p.2 ρ b).bind fun q => (match q.1 with
      | .next => rs q.2.2 q.2.1 [.loop c b]
      | .ret w => some (.ret w, q.2.1, q.2.2))
    else some (.next, ρ, p.2) := rfl
theorem x_sets {r : EvT} {rs : ExT} {sw : Bool} {is : List Nat} {es : List ME} : ex1 r rs σ ρ (.sets sw is es) = (evL r ρ σ es).bind fun p => if (is.all fun i => decide (i < ρ.length)) && decide (p.1.length ≤ big) then (if sw then setAll ρ is.reverse p.1.reverse else setAll ρ is p.1).map fun ρ' => (.next, ρ', p.2) else none := rfl
theorem x_item {r : EvT} {rs : ExT} {i : Nat} {k v : ME} : ex1 r rs σ ρ (.setItem i k v) = (r σ ρ v).bind fun p => (wD p.1).bind fun x => (r p.2 ρ k).bind fun q => match ρ[i]?, q.1 with
    | some (some (.m j)), .d (.int k) => (q.2[j]?).bind fun l => if 0 ≤ k && small k && decide (k.toNat < l.length) then some (.next, ρ, q.2.set j (l.set k.toNat x)) else none
    | _, _ => none := rfl
theorem i_range {r : EvT} {args : List ME} : evI r σ ρ .range args = (evL r ρ σ args).bind fun p => (wDs p.1).bind fun ds => (dRange ds).map fun l => (l, none, p.2) := by
  unfold evI
  cases evL r ρ σ args with
  | none => rfl
  | some p => rfl
end

section
variable {O : Nat → D} {F : Nat → FnT} {G : Nat → Option D} {srt : List D → Option (List D)}

theorem run1 {np slots n : Nat} {ms : List MS} {xs : List W} {σ : Store} {ρ' : Rho} {d : D} (h : exS F G srt n σ (xs.map some ++ List.replicate (slots - xs.length) none) ms = some (.ret (.d d), ρ', σ)) (hx : xs.length = np) :
    xs.length = np ∧ ∃ fl ρ' σ1, Runs (Only F) G srt O σ (xs.map some ++ List.replicate (slots - xs.length) none) ms fl ρ' σ1 ∧ fnRes σ fl σ1 = some (d, σ) :=
  ⟨hx, _, _, _, runs_of only n _ _ _ _ _ _ h, by simp [fnRes]⟩

theorem small_one : small 1 = true := by decide +kernel
theorem gcd_abs (z : Int) : Int.fmod (if z < 0 then -z else z) 1 = 0 := by simp
theorem len_small {σ : Store} {l : List D} (h : l.length ≤ big) : evBlt srt σ .len [.d (.lst l)] = some (.int l.length) := by
  show (if l.length ≤ big then some (D.int l.length) else none) = _
  rw [if_pos h]
theorem run_gcd : FnRun F G srt O 2 2 ms_gcd pGcd := by
  intro xs σ r σ' h
  unfold pGcd at h
  split at h
  · rename_i z
    cases h
    refine run1 (n := 20) (ρ' := [some (.d (.int 1)), some (.d (.int 0))]) ?_ rfl
    have h1 : ex1 (evE F G srt 19) (exS F G srt 19) σ [some (.d (.int z)), some (.d (.int 1))] (.sets true [0, 1] [(.blt .abs [(.var 0)]), (.blt .abs [(.var 1)])]) = some (.next, [some (.d (.int (if z < 0 then -z else z))), some (.d (.int 1))], σ) := rfl
    have h2 : exS F G srt 18 σ [some (.d (.int (if z < 0 then -z else z))), some (.d (.int 1))] [.sets true [0, 1] [(.var 1), (.bin .mod (.var 0) (.var 1))]] = some (.next, [some (.d (.int 1)), some (.d (.int 0))], σ) := by
      have md : dBin .mod (.int (if z < 0 then -z else z)) (.int 1) = some (.int 0) := by
        show (if (small 1 && decide ((1 : Int) ≠ 0)) = true then some (D.int (Int.fmod (if z < 0 then -z else z) 1)) else none) = _
        rw [if_pos (by rw [small_one]; rfl), gcd_abs]
      have e2 : evE F G srt 17 σ [some (.d (.int (if z < 0 then -z else z))), some (.d (.int 1))] (.bin .mod (.var 0) (.var 1)) = some (.d (.int 0), σ) := by
        rw [e_bin]
        show ((dBin .mod (.int (if z < 0 then -z else z)) (.int 1)).map fun z => ((.d z : W), σ)) = _
        rw [md]
        rfl
      have ev : evL (evE F G srt 17) [some (.d (.int (if z < 0 then -z else z))), some (.d (.int 1))] σ [(.var 1), (.bin .mod (.var 0) (.var 1))] = some ([.d (.int 1), .d (.int 0)], σ) := by
        rw [l_cons, show evE F G srt 17 σ [some (.d (.int (if z < 0 then -z else z))), some (.d (.int 1))] (.var 1) = some (.d (.int 1), σ) from rfl]
        simp only [Option.bind_some, l_cons, e2, l_nil, Option.map_some]
      rw [s_cons]
      rw [x_sets, ev]
      rfl
    have h3 : ex1 (evE F G srt 18) (exS F G srt 18) σ [some (.d (.int (if z < 0 then -z else z))), some (.d (.int 1))] (.loop (.cmp .ne (.var 1) (.int 0)) [.sets true [0, 1] [(.var 1), (.bin .mod (.var 0) (.var 1))]]) = some (.next, [some (.d (.int 1)), some (.d (.int 0))], σ) := by
      rw [x_loop, show evE F G srt 18 σ [some (.d (.int (if z < 0 then -z else z))), some (.d (.int 1))] (.cmp .ne (.var 1) (.int 0)) = some (.d (.bool true), σ) from rfl]
      simp only [Option.bind_some, asTru, if_true, h2]
      rfl
    show exS F G srt 20 σ [some (.d (.int z)), some (.d (.int 1))] ms_gcd = _
    unfold ms_gcd
    rw [s_cons, h1]
    simp only [Option.bind_some]
    rw [s_cons, h3]
    rfl
  · cases h
theorem run_rat (h0 : ∀ z σ, F 0 [.d (.int z), .d (.int 1)] σ = some (.int 1, σ)) : FnRun F G srt O 2 3 ms_rat pRat := by
  intro xs σ r σ' h
  unfold pRat at h
  split at h
  · rename_i z
    cases h
    have h0' := h0 z σ
    refine run1 (n := 20) (ρ' := [some (.d (.int z)), some (.d (.int 1)), some (.d (.int 1))]) ?_ rfl
    simp [ms_rat, exS, ex1, evE, evL, dBin, dCmp, dPlain, deq, wD, wDs, small, big, asTru, h0', rz]
  · cases h
theorem run_radd (h0 : ∀ z σ, F 2 [.d (.int z), .d (.int 1)] σ = some (rz z, σ)) : FnRun F G srt O 2 2 ms_radd (pOp (fun x y => x + y) fun x y => small x && small y) := by
  intro xs σ r σ' h
  unfold pOp at h
  split at h
  · split at h
    · rename_i x y hx hy
      obtain rfl := zr_eq hx
      obtain rfl := zr_eq hy
      split at h
      · rename_i hs
        simp only [Bool.and_eq_true] at hs
        cases h
        have h0' := h0 (x + y) σ
        refine run1 (n := 20) (ρ' := [some (.d (rz x)), some (.d (rz y))]) ?_ rfl
        simp [ms_radd, exS, ex1, evE, evL, dBin, dIdx, wD, small_one, big, rz, hs.1, hs.2, h0', show small 0 = true from rfl]
      · cases h
    · cases h
  · cases h
theorem run_rsub (h0 : ∀ z σ, F 2 [.d (.int z), .d (.int 1)] σ = some (rz z, σ)) : FnRun F G srt O 2 2 ms_rsub (pOp (fun x y => x - y) fun x y => small x && small y) := by
  intro xs σ r σ' h
  unfold pOp at h
  split at h
  · split at h
    · rename_i x y hx hy
      obtain rfl := zr_eq hx
      obtain rfl := zr_eq hy
      split at h
      · rename_i hs
        simp only [Bool.and_eq_true] at hs
        cases h
        have h0' := h0 (x - y) σ
        refine run1 (n := 20) (ρ' := [some (.d (rz x)), some (.d (rz y))]) ?_ rfl
        simp [ms_rsub, exS, ex1, evE, evL, dBin, dIdx, wD, small_one, big, rz, hs.1, hs.2, h0', show small 0 = true from rfl]
      · cases h
    · cases h
  · cases h
theorem run_rmul (h0 : ∀ z σ, F 2 [.d (.int z), .d (.int 1)] σ = some (rz z, σ)) : FnRun F G srt O 2 2 ms_rmul (pOp (fun x y => x * y) fun x _ => small x) := by
  intro xs σ r σ' h
  unfold pOp at h
  split at h
  · split at h
    · rename_i x y hx hy
      obtain rfl := zr_eq hx
      obtain rfl := zr_eq hy
      split at h
      · rename_i hs
        cases h
        have h0' := h0 (x * y) σ
        refine run1 (n := 20) (ρ' := [some (.d (rz x)), some (.d (rz y))]) ?_ rfl
        simp [ms_rmul, exS, ex1, evE, evL, dBin, dIdx, wD, small_one, big, rz, hs, h0', show small 0 = true from rfl]
      · cases h
    · cases h
  · cases h
theorem run_rdiv (h0 : ∀ z σ, F 2 [.d (.int z), .d (.int 1)] σ = some (rz z, σ)) : FnRun F G srt O 2 2 ms_rdiv (pOp (fun x _ => x) fun x y => small x && decide (y = 1)) := by
  intro xs σ r σ' h
  unfold pOp at h
  split at h
  · split at h
    · rename_i x y hx hy
      obtain rfl := zr_eq hx
      obtain rfl := zr_eq hy
      split at h
      · rename_i hs
        simp only [Bool.and_eq_true, decide_eq_true_eq] at hs
        obtain ⟨hs, rfl⟩ := hs
        cases h
        have h0' := h0 x σ
        refine run1 (n := 20) (ρ' := [some (.d (rz x)), some (.d (rz 1))]) ?_ rfl
        simp [ms_rdiv, exS, ex1, evE, evL, dBin, dIdx, wD, small_one, big, rz, hs, h0', show small 0 = true from rfl]
      · cases h
    · cases h
  · cases h
theorem vast_no {x : Int} (h : small x = true) : ¬ ((2 : Int) ^ 64 ≤ if 1 > (if x < 0 then -x else x) then 1 else if x < 0 then -x else x) := by
  have := of_decide_eq_true h
  split <;> split <;> omega
theorem run_vast : FnRun F G srt O 1 2 ms_is_vast pVast := by
  intro xs σ r σ' h
  unfold pVast at h
  split at h
  · split at h
    · rename_i x hx
      obtain rfl := zr_eq hx
      split at h
      · rename_i hs
        cases h
        have hv := vast_no hs
        refine run1 (n := 20) (ρ' := [some (.d (rz x)), some (.d (.int (if 1 > (if x < 0 then -x else x) then 1 else if x < 0 then -x else x)))]) ?_ rfl
        generalize hA : (if x < 0 then -x else x) = A at *
        have h1 : ex1 (evE F G srt 19) (exS F G srt 19) σ [some (.d (rz x)), none] (.set 1 (.blt .max [(.blt .abs [(.idx (.var 0) (.int 0))]), (.idx (.var 0) (.int 1))])) = some (.next, [some (.d (rz x)), some (.d (.int (if 1 > A then 1 else A)))], σ) := by
          rw [← hA]; rfl
        have h2 : evE F G srt 17 σ [some (.d (rz x)), some (.d (.int (if 1 > A then 1 else A)))] (.cmp .ge (.var 1) (.bin .pow (.int 2) (.int 64))) = some (.d (.bool false), σ) := by
          have pw : evE F G srt 16 σ [some (.d (rz x)), some (.d (.int (if 1 > A then 1 else A)))] (.bin .pow (.int 2) (.int 64)) = some (.d (.int ((2 : Int) ^ 64)), σ) := by
            rw [e_bin]
            show ((if (small 2 && decide ((0 : Int) ≤ 64) && decide ((64 : Int) ≤ 1000)) = true then some (D.int ((2 : Int) ^ 64)) else none).map fun z => ((.d z : W), σ)) = _
            rw [if_pos (by decide +kernel)]
            rfl
          rw [e_cmp, show evE F G srt 16 σ [some (.d (rz x)), some (.d (.int (if 1 > A then 1 else A)))] (.var 1) = some (.d (.int (if 1 > A then 1 else A)), σ) from rfl]
          simp only [Option.bind_some, pw, wD]
          show some (W.d (.bool (decide ((2 : Int) ^ 64 ≤ if 1 > A then 1 else A))), σ) = _
          rw [decide_eq_false hv]
        show exS F G srt 20 σ [some (.d (rz x)), none] ms_is_vast = _
        unfold ms_is_vast
        rw [s_cons, h1]
        simp only [Option.bind_some]
        rw [s_cons, x_ret, e_and, h2]
        rfl
      · cases h
    · cases h
  · cases h
theorem run_let (h7 : ∀ x σ, small x = true → F 7 [.d (rz x)] σ = some (.bool false, σ)) : FnRun F G srt O 1 1 ms_let pLet := by
  intro xs σ r σ' h
  unfold pLet at h
  split at h
  · split at h
    · rename_i x hx
      obtain rfl := zr_eq hx
      split at h
      · rename_i hs
        cases h
        refine run1 (n := 20) (ρ' := [some (.d (rz x))]) ?_ rfl
        simp [ms_let, exS, ex1, evE, evL, asTru, h7 x σ hs]
      · cases h
    · cases h
  · cases h
end
end Mine


namespace Mine

noncomputable def mixI (a b : List Int) (at_ : Nat) : Nat → Nat → Int → Option Int
  | 0, _, acc => some acc
  | m + 1, i, acc => match a[i]?, b[at_ - i]? with
    | some x, some y => if small (acc + x * y) && (small (x * y) && small x) then mixI a b at_ m (i + 1) (acc + x * y) else none
    | _, _ => none
noncomputable def pMixed : FnT := fun ws σ => match ws with
  | [.d (.lst a), .d (.lst b), .d (.int (.ofNat k))] => (match zrs a, zrs b with
    | some x, some y => if k < 1000 then (mixI x y k (k + 1) 0 0).map fun z => (rz z, σ) else none
    | _, _ => none)
  | _ => none

section
variable {O : Nat → D} {F : Nat → FnT} {G : Nat → Option D} {srt : List D → Option (List D)}

theorem small_nat {k : Nat} (h : k < 2000) : small (k : Int) = true := by
  unfold small
  rw [decide_eq_true_eq]
  simp
  omega
theorem rz_at {a : List Int} {i : Nat} {x : Int} (h : a[i]? = some x) : (a.map rz)[i]? = some (rz x) := by rw [List.getElem?_map, h]; rfl
theorem dIdx_nat {l : List D} {i : Nat} (h : i < 2000) : dIdx l (i : Int) = l[i]? := by
  unfold dIdx
  rw [if_pos (by rw [Bool.and_eq_true]; exact ⟨by simp, small_nat h⟩)]
  rfl
theorem dIdx_sub {l : List D} {i k : Nat} (h : i ≤ k) (hk : k < 2000) : dIdx l ((k : Int) - (i : Int)) = l[k - i]? := by
  rw [show (k : Int) - (i : Int) = ((k - i : Nat) : Int) by omega]
  exact dIdx_nat (by omega)
theorem deq_rz (x y : Int) : deq (rz x) (rz y) = decide (x = y) := by simp [rz, deq, deqs]
theorem plain_rz (x : Int) : dPlain 8 (rz x) = true := by simp [rz, dPlain, dPlains]

noncomputable def mixBody : List MS := [.cond (.and (.cmp .ne (.idx (.var 0) (.var 4)) (.glob 0)) (.cmp .ne (.idx (.var 1) (.bin .sub (.var 2) (.var 4))) (.glob 0))) [.set 3 (.call 3 [(.var 3), (.call 5 [(.idx (.var 0) (.var 4)), (.idx (.var 1) (.bin .sub (.var 2) (.var 4)))])])] []]

structure Rats (F : Nat → FnT) (G : Nat → Option D) : Prop where
  add : ∀ x y σ, small x = true → small y = true → F 3 [.d (rz x), .d (rz y)] σ = some (rz (x + y), σ)
  sub : ∀ x y σ, small x = true → small y = true → F 4 [.d (rz x), .d (rz y)] σ = some (rz (x - y), σ)
  mul : ∀ x y σ, small x = true → F 5 [.d (rz x), .d (rz y)] σ = some (rz (x * y), σ)
  div : ∀ x σ, small x = true → F 6 [.d (rz x), .d (rz 1)] σ = some (rz x, σ)
  g0 : G 0 = some (rz 0)
  g1 : G 1 = some (rz 1)

theorem mix_turn (H : Rats F G) {n : Nat} {σ : Store} {a b : List D} {x y acc : Int} {k i : Nat} (ha : a[i]? = some (rz x)) (hb : b[k - i]? = some (rz y)) (hi : i ≤ k) (hk : k < 1000) (h1 : small acc = true) (h2 : small (x * y) = true) (h3 : small x = true) :
    exS F G srt (n + 12) σ [some (.d (.lst a)), some (.d (.lst b)), some (.d (.int k)), some (.d (rz acc)), some (.d (.int i))] mixBody = some (.next, [some (.d (.lst a)), some (.d (.lst b)), some (.d (.int k)), some (.d (rz (acc + x * y))), some (.d (.int i))], σ) := by
  have e1 : dIdx a (i : Int) = some (rz x) := by rw [dIdx_nat (by omega), ha]
  have e2 : dIdx b ((k : Int) - (i : Int)) = some (rz y) := by rw [dIdx_sub hi (by omega), hb]
  by_cases hx : x = 0
  · subst hx
    simp [mixBody, s_cons, s_nil, x_cond, e_and, e_cmp, e_idx, e_glob, e_var, dBin, dCmp, wD, asTru, e1, H.g0, deq_rz, plain_rz]
  · by_cases hy : y = 0
    · subst hy
      simp [mixBody, s_cons, s_nil, x_cond, e_and, e_cmp, e_idx, e_glob, e_var, e_bin, dBin, dCmp, wD, asTru, e1, e2, H.g0, deq_rz, plain_rz, hx]
    · simp [mixBody, s_cons, s_nil, x_cond, x_set, e_and, e_cmp, e_idx, e_glob, e_var, e_bin, e_call, l_nil, l_cons, dBin, dCmp, wD, asTru, e1, e2, H.g0, deq_rz, plain_rz, hx, hy, H.mul x y σ h3, H.add acc (x * y) σ h1 h2]

theorem steps_nat (i m : Nat) : steps (i : Int) 1 (m + 1) = .int i :: steps ((i + 1 : Nat) : Int) 1 m := by rw [steps]; rfl

theorem mix_loop (H : Rats F G) {n : Nat} {σ : Store} {a b : List Int} {k : Nat} (hk : k < 1000) : ∀ (m i : Nat) (acc z : Int) (w4 : Option W), i + m = k + 1 → mixI a b k m i acc = some z → small acc = true →
    small z = true ∧ ∃ w5, exEach (exS F G srt (n + 12)) [4] mixBody none σ [some (.d (.lst (a.map rz))), some (.d (.lst (b.map rz))), some (.d (.int k)), some (.d (rz acc)), w4] (steps (i : Int) 1 m) =
      some (.next, [some (.d (.lst (a.map rz))), some (.d (.lst (b.map rz))), some (.d (.int k)), some (.d (rz z)), w5], σ)
  | 0, i, acc, z, w4, _, h, hs => by
    simp only [mixI] at h
    cases h
    exact ⟨hs, w4, by simp [steps, exEach]⟩
  | m + 1, i, acc, z, w4, hm, h, hs => by
    simp only [mixI] at h
    split at h
    · rename_i x y hx hy
      split at h
      · rename_i hc
        simp only [Bool.and_eq_true] at hc
        obtain ⟨q1, w5, q2⟩ := mix_loop H hk m (i + 1) (acc + x * y) z (some (.d (.int i))) (by omega) h hc.1
        refine ⟨q1, w5, ?_⟩
        rw [steps_nat, exEach]
        have e := mix_turn (srt := srt) (n := n) (σ := σ) H (rz_at hx) (rz_at hy) (by omega) hk hs hc.2.1 hc.2.2
        simp only [bindT, List.set_cons_succ, List.set_cons_zero, Option.bind_some, e]
        simpa [stays] using q2
      · cases h
    · cases h

theorem run_mixed (H : Rats F G) : FnRun F G srt O 3 5 ms_mixed pMixed := by
  intro xs σ r σ' h
  unfold pMixed at h
  split at h
  · split at h
    · rename_i a b hx hy
      obtain rfl := zrs_eq hx
      obtain rfl := zrs_eq hy
      split at h
      · rename_i k _ _ hk
        obtain ⟨z, hz, h⟩ := m2 h
        cases h
        obtain ⟨_, w5, q⟩ := mix_loop (srt := srt) (n := 16) (σ := σ) H hk (k + 1) 0 0 z none (by omega) hz (by decide)
        refine run1 (n := 30) (ρ' := [some (.d (.lst (a.map rz))), some (.d (.lst (b.map rz))), some (.d (.int k)), some (.d (rz z)), w5]) ?_ rfl
        have hr : dRange [.int ((k : Int) + 1)] = some (steps 0 1 (k + 1)) := by
          have e : ((k : Int) + 1).toNat = k + 1 := by omega
          simp only [dRange, e]
          rw [if_pos (by rw [Bool.and_eq_true]; exact ⟨by have := small_nat (k := k + 1) (by omega); simpa using this, by simp [big]; omega⟩)]
        simp [ms_mixed, s_cons, s_nil, x_set, x_each, x_ret, i_range, e_glob, e_bin, e_var, e_int, l_nil, l_cons, H.g0, dBin, wD, wDs, hr]
        have q' : exEach (exS F G srt 28) [4] mixBody none σ [some (.d (.lst (a.map rz))), some (.d (.lst (b.map rz))), some (.d (.int k)), some (.d (rz 0)), none] (steps 0 1 (k + 1)) = _ := q
        unfold mixBody at q'
        rw [q']
        simp [e_var]
      · cases h
    · cases h
  · cases h
end
end Mine


namespace Mine

noncomputable def smulI (a b : List Int) : Nat → Nat → Option (List Int)
  | 0, _ => some []
  | m + 1, k => match mixI a b k (k + 1) 0 0 with
    | some z => (match smulI a b m (k + 1) with
      | some r => some (z :: r)
      | none => none)
    | none => none
noncomputable def pSmul : FnT := fun ws σ => match ws with
  | [.d (.lst a), .d (.lst b)] => (match zrs a, zrs b with
    | some x, some y => if x.length = y.length ∧ x.length < 1000 then (match smulI x y x.length 0 with
      | some r => some (.lst (r.map rz), σ)
      | none => none) else none
    | _, _ => none)
  | _ => none
noncomputable def subI (a f : List Int) (k : Nat) : Nat → Nat → Int → Option Int
  | 0, _, t => some t
  | m + 1, i, t => match a[i]?, f[k - i]? with
    | some x, some y => if small (t - x * y) && (small (x * y) && small x) then subI a f k m (i + 1) (t - x * y) else none
    | _, _ => none
noncomputable def invI (a : List Int) : Nat → Nat → List Int → Option (List Int)
  | 0, _, f => some f
  | m + 1, k, f => match subI a f k k 1 (if k = 0 then 1 else 0) with
    | some t => invI a m (k + 1) (f ++ [t])
    | none => none
noncomputable def pSinv : FnT := fun ws σ => match ws with
  | [.d (.lst a)] => (match zrs a with
    | some x => (match x with
      | [] => none
      | z :: _ => if z = 1 ∧ x.length < 1000 then (match invI x x.length 0 [] with
        | some r => some (.lst (r.map rz), σ)
        | none => none) else none)
    | _ => none)
  | _ => none

section
variable {O : Nat → D} {F : Nat → FnT} {G : Nat → Option D} {srt : List D → Option (List D)}

theorem mixI_small {a b : List Int} {k : Nat} : ∀ (m i : Nat) (acc z : Int), mixI a b k m i acc = some z → small acc = true → small z = true
  | 0, _, acc, z, h, hs => by simp only [mixI] at h; cases h; exact hs
  | m + 1, i, acc, z, h, hs => by
    simp only [mixI] at h
    split at h
    · split at h
      · rename_i hc
        simp only [Bool.and_eq_true] at hc
        exact mixI_small m _ _ z h hc.1
      · cases h
    · cases h
theorem len_blt {r : List D} {σ : Store} (h : r.length < 1000) : evBlt srt σ .len [.d (.lst r)] = some (.int r.length) := by
  exact len_small (by show r.length ≤ 1000000; omega)

structure Sers (F : Nat → FnT) : Prop where
  lt : ∀ z σ, small z = true → F 9 [.d (rz z)] σ = some (rz z, σ)
  mx : ∀ a b k z σ, k < 1000 → mixI a b k (k + 1) 0 0 = some z → F 10 [.d (.lst (a.map rz)), .d (.lst (b.map rz)), .d (.int k)] σ = some (rz z, σ)

theorem smul_loop (H : Sers F) {n : Nat} {σ : Store} {a b : List Int} : ∀ (m k : Nat) (r : List Int), smulI a b m k = some r → k + m < 1000 →
    evC (evE F G srt (n + 8)) [some (.d (.lst (a.map rz))), some (.d (.lst (b.map rz)))] (.call 9 [.call 10 [.var 0, .var 1, .var 2]]) false none none σ (steps (k : Int) 1 m) = some (r.map rz, σ)
  | 0, k, r, h, _ => by simp only [smulI] at h; cases h; rfl
  | m + 1, k, r, h, hk => by
    simp only [smulI] at h
    split at h
    · rename_i z hz
      split at h
      · rename_i r' hr
        cases h
        have ih := smul_loop (n := n) (σ := σ) H m (k + 1) r' hr (by omega)
        have e1 := H.mx a b k z σ (by omega) hz
        have e2 := H.lt z σ (mixI_small _ _ _ _ hz (by decide))
        rw [steps_nat, evC]
        simp [binds1, e_call, l_cons, l_nil, e_var, e1, e2, wD, stays]
        simpa using ih
      · cases h
    · cases h

theorem run_smul (H : Sers F) : FnRun F G srt O 2 2 ms_smul pSmul := by
  intro xs σ r σ' h
  unfold pSmul at h
  split at h
  · split at h
    · rename_i a b hx hy
      obtain rfl := zrs_eq hx
      obtain rfl := zrs_eq hy
      split at h
      · rename_i hc
        split at h
        · rename_i q hq
          cases h
          have e := smul_loop (G := G) (srt := srt) (n := 20) (σ := σ) H _ 0 q hq (by omega)
          refine run1 (n := 30) (ρ' := [some (.d (.lst (a.map rz))), some (.d (.lst (b.map rz)))]) ?_ rfl
          have la := len_blt (srt := srt) (σ := σ) (r := a.map rz) (by simpa using hc.2)
          have lb := len_blt (srt := srt) (σ := σ) (r := b.map rz) (by simpa [← hc.1] using hc.2)
          have hr : dRange [.int (a.length : Int)] = some (steps 0 1 a.length) := by
            simp only [dRange, Int.toNat_natCast]
            rw [if_pos (by rw [Bool.and_eq_true]; exact ⟨small_nat (by omega), decide_eq_true (show a.length ≤ 1000000 by omega)⟩)]
          have hm : evBlt srt σ .min [.d (.int (a.length : Int)), .d (.int (b.length : Int))] = some (.int (a.length : Int)) := by
            show some (D.int (if (b.length : Int) < (a.length : Int) then (b.length : Int) else (a.length : Int))) = _
            rw [hc.1, if_neg (Int.lt_irrefl _)]
          have e' : evC (evE F G srt 28) [some (.d (.lst (a.map rz))), some (.d (.lst (b.map rz)))] (.call 9 [.call 10 [.var 0, .var 1, .var 2]]) false none none σ (steps 0 1 a.length) = some (q.map rz, σ) := e
          simp only [List.length_map] at la lb
          simp [ms_smul, s_cons, x_ret, e_comp, i_range, e_blt, l_cons, l_nil, e_var, la, lb, hm, wDs, wD, hr, e']
        · cases h
      · cases h
    · cases h
  · cases h

noncomputable def subBody : List MS := [.set 3 (.call 4 [(.var 3), (.call 5 [(.idx (.var 0) (.var 4)), (.idx (.var 1) (.bin .sub (.var 2) (.var 4)))])])]
noncomputable def invBody : List MS := [.set 3 (.ite (.cmp .eq (.var 2) (.int 0)) (.glob 1) (.glob 0)),
      .each [4] .range [(.int 1), (.bin .add (.var 2) (.int 1))] subBody,
      .app 1 (.call 9 [(.call 6 [(.var 3), (.idx (.var 0) (.int 0))])])]

theorem subI_small {a b : List Int} {k : Nat} : ∀ (m i : Nat) (acc z : Int), subI a b k m i acc = some z → small acc = true → small z = true
  | 0, _, acc, z, h, hs => by simp only [subI] at h; cases h; exact hs
  | m + 1, i, acc, z, h, hs => by
    simp only [subI] at h
    split at h
    · split at h
      · rename_i hc
        simp only [Bool.and_eq_true] at hc
        exact subI_small m _ _ z h hc.1
      · cases h
    · cases h

theorem sub_loop (H : Rats F G) {n j : Nat} {σ : Store} {a f : List Int} {k : Nat} (hk : k < 1000) (hj : σ[j]? = some (f.map rz)) : ∀ (m i : Nat) (acc z : Int) (w4 : Option W), i + m = k + 1 → subI a f k m i acc = some z → small acc = true →
    ∃ w5, exEach (exS F G srt (n + 12)) [4] subBody none σ [some (.d (.lst (a.map rz))), some (.m j), some (.d (.int k)), some (.d (rz acc)), w4] (steps (i : Int) 1 m) =
      some (.next, [some (.d (.lst (a.map rz))), some (.m j), some (.d (.int k)), some (.d (rz z)), w5], σ)
  | 0, i, acc, z, w4, _, h, hs => by
    simp only [subI] at h
    cases h
    exact ⟨w4, by simp [steps, exEach]⟩
  | m + 1, i, acc, z, w4, hm, h, hs => by
    simp only [subI] at h
    split at h
    · rename_i x y hx hy
      split at h
      · rename_i hc
        simp only [Bool.and_eq_true] at hc
        obtain ⟨w5, q2⟩ := sub_loop H hk hj m (i + 1) (acc - x * y) z (some (.d (.int i))) (by omega) h hc.1
        refine ⟨w5, ?_⟩
        rw [steps_nat, exEach]
        have e1 : dIdx (a.map rz) (i : Int) = some (rz x) := by rw [dIdx_nat (by omega), rz_at hx]
        have e2 : dIdx (f.map rz) ((k : Int) - (i : Int)) = some (rz y) := by rw [dIdx_sub (by omega) (by omega), rz_at hy]
        simp [bindT, subBody, s_cons, s_nil, x_set, e_call, l_cons, l_nil, e_var, e_idx, e_bin, dBin, wD, hj, e1, e2, H.mul x y σ hc.2.2, H.sub acc (x * y) σ hs hc.2.1, stays]
        simpa [subBody] using q2
      · cases h
    · cases h

theorem inv_turn (H : Rats F G) (S : Sers F) {n j : Nat} {σ : Store} {a f : List Int} {k : Nat} {t : Int} {w3 w4 : Option W} (hk : k < 1000) (hj : σ[j]? = some (f.map rz)) (hf : f.length < 1000) (h0 : a[0]? = some 1) (ht : subI a f k k 1 (if k = 0 then 1 else 0) = some t) :
    ∃ w5, exS F G srt (n + 20) σ [some (.d (.lst (a.map rz))), some (.m j), some (.d (.int k)), w3, w4] invBody = some (.next, [some (.d (.lst (a.map rz))), some (.m j), some (.d (.int k)), some (.d (rz t)), w5], σ.set j ((f ++ [t]).map rz)) := by
  have hs : small (if k = 0 then 1 else 0) = true := by split <;> decide
  have hst := subI_small _ _ _ _ ht hs
  obtain ⟨w5, q⟩ := sub_loop (srt := srt) (n := n + 6) H hk hj k 1 (if k = 0 then 1 else 0) t w4 (by omega) ht hs
  refine ⟨w5, ?_⟩
  have q' : exEach (exS F G srt (n + 18)) [4] subBody none σ [some (.d (.lst (a.map rz))), some (.m j), some (.d (.int k)), some (.d (rz (if k = 0 then 1 else 0))), w4] (steps 1 1 k) = _ := q
  have hr : dRange [.int 1, .int ((k : Int) + 1)] = some (steps 1 1 k) := by
    have e : ((k : Int) + 1 - 1).toNat = k := by omega
    simp only [dRange, e]
    rw [if_pos (by simp only [Bool.and_eq_true]; exact ⟨⟨by decide, by have := small_nat (k := k + 1) (by omega); simpa using this⟩, decide_eq_true (show k ≤ 1000000 by omega)⟩)]
  have e0 : dIdx (a.map rz) 0 = some (rz 1) := by
    have := dIdx_nat (l := a.map rz) (i := 0) (by omega)
    rw [show ((0 : Nat) : Int) = 0 from rfl, rz_at h0] at this
    exact this
  have hg : (evE F G srt (n + 19) σ [some (.d (.lst (a.map rz))), some (.m j), some (.d (.int k)), w3, w4] (.ite (.cmp .eq (.var 2) (.int 0)) (.glob 1) (.glob 0))) = some (.d (rz (if k = 0 then 1 else 0)), σ) := by
    by_cases hz : k = 0
    · subst hz
      simp [e_ite, e_cmp, e_var, e_int, e_glob, H.g1, wD, dCmp, dPlain, deq, asTru]
    · simp [e_ite, e_cmp, e_var, e_int, e_glob, H.g0, wD, dCmp, dPlain, deq, asTru, hz]
  have hjl : f.length ≤ big := show f.length ≤ 1000000 by omega
  simp [invBody, s_cons, s_nil, x_set, x_each, hg, i_range, l_cons, l_nil, e_int, e_bin, e_var, dBin, wD, wDs, hr, q', x_app, e_call, e_idx, e0, H.div t σ hst, S.lt t σ hst, hj, hjl]

theorem inv_loop (H : Rats F G) (S : Sers F) {n j : Nat} {a : List Int} (h0 : a[0]? = some 1) : ∀ (m k : Nat) (σ : Store) (f q : List Int) (w2 w3 w4 : Option W), k + m < 1000 → f.length = k → σ[j]? = some (f.map rz) → invI a m k f = some q →
    ∃ v2 v3 v4, exEach (exS F G srt (n + 20)) [2] invBody none σ [some (.d (.lst (a.map rz))), some (.m j), w2, w3, w4] (steps (k : Int) 1 m) = some (.next, [some (.d (.lst (a.map rz))), some (.m j), v2, v3, v4], σ.set j (q.map rz))
  | 0, k, σ, f, q, w2, w3, w4, _, _, hj, h => by
    simp only [invI] at h
    cases h
    refine ⟨w2, w3, w4, ?_⟩
    have : σ.set j (f.map rz) = σ := by
      obtain ⟨hl, e⟩ := List.getElem?_eq_some_iff.mp hj
      rw [← e]; exact List.set_getElem_self hl
    simp [steps, exEach, this]
  | m + 1, k, σ, f, q, w2, w3, w4, hk, hf, hj, h => by
    simp only [invI] at h
    split at h
    · rename_i t ht
      obtain ⟨w5, e⟩ := inv_turn (srt := srt) (n := n) (w3 := w3) (w4 := w4) H S (by omega) hj (by omega) h0 ht
      have hj2 : (σ.set j ((f ++ [t]).map rz))[j]? = some ((f ++ [t]).map rz) := List.getElem?_set_self (List.getElem?_eq_some_iff.mp hj).1
      obtain ⟨v2, v3, v4, ih⟩ := inv_loop (n := n) (j := j) H S h0 m (k + 1) (σ.set j ((f ++ [t]).map rz)) (f ++ [t]) q (some (.d (.int k))) (some (.d (rz t))) w5 (by omega) (by simp [hf]) hj2 h
      refine ⟨v2, v3, v4, ?_⟩
      rw [steps_nat, exEach]
      simp only [bindT, List.set_cons_succ, List.set_cons_zero, Option.bind_some, e, stays, if_true]
      rw [ih, List.set_set]
    · cases h

theorem run_sinv (H : Rats F G) (S : Sers F) : FnRun F G srt O 1 5 ms_sinverse pSinv := by
  intro xs σ r σ' h
  unfold pSinv at h
  split at h
  · split at h
    · rename_i x hx
      obtain rfl := zrs_eq hx
      split at h
      · cases h
      · rename_i _ z rest
        split at h
        · rename_i hc
          obtain ⟨rfl, hl⟩ := hc
          split at h
          · rename_i q hq
            cases h
            obtain ⟨v2, v3, v4, e⟩ := inv_loop (F := F) (G := G) (srt := srt) (n := 7) (j := σ.length) (a := 1 :: rest) H S rfl (1 :: rest).length 0 (σ ++ [[]]) [] q none none none (by omega) rfl (by simp) hq
            have e' : exEach (exS F G srt 27) [2] invBody none (σ ++ [[]]) [some (.d (.lst ((1 :: rest).map rz))), some (.m σ.length), none, none, none] (steps 0 1 (1 :: rest).length) = _ := e
            have la := len_blt (srt := srt) (σ := σ) (r := (1 :: rest).map rz) (by simpa using hl)
            have la' := len_blt (srt := srt) (σ := σ ++ [[]]) (r := (1 :: rest).map rz) (by simpa using hl)
            have hr : dRange [.int ((1 :: rest).length : Int)] = some (steps 0 1 (1 :: rest).length) := by
              simp only [dRange, Int.toNat_natCast]
              rw [if_pos (by rw [Bool.and_eq_true]; exact ⟨small_nat (by omega), by simp [big]; simp at hl; omega⟩)]
            have e0 : dIdx ((1 :: rest).map rz) 0 = some (rz 1) := rfl
            refine ⟨rfl, .ret (.m σ.length), _, _, runs_of only 30 _ _ _ _ _ _ (?_ : _ = some (_, [some (.d (.lst ((1 :: rest).map rz))), some (.m σ.length), v2, v3, v4], (σ ++ [[]]).set σ.length (q.map rz))), ?_⟩
            · simp only [List.length_map] at la la'
              generalize hA : (1 :: rest).map rz = A at *
              generalize hL : (1 :: rest).length = L at *
              simp only [invBody, subBody] at e'
              have hL1 : (0 : Int) < (L : Int) := by rw [← hL]; simp
              have hne : deq (rz 1) (rz 0) = false := by rw [deq_rz]; rfl
              simp [ms_sinverse, s_cons, s_nil, x_cond, x_set, x_each, x_ret, e_and, e_cmp, e_blt, e_idx, e_glob, e_var, e_int, e_mlst, l_cons, l_nil, i_range, la, la', wD, wDs, dCmp, asTru, hL1, e0, H.g0, plain_rz, hne, hr, e', big]
            · simp [fnRes]
          · cases h
        · cases h
    · cases h
  · cases h
end
end Mine


namespace Mine

noncomputable def dflt : List Int := [0, 2, 0, 0, 1, 0, 0, 0]
noncomputable def drawVal (cells : List Int) (spot : Nat) (many : Int) : Int :=
  match cells[spot]? with
  | some a => (if a < 0 then -a else a).fmod many
  | none => (dflt[spot]?.getD 0).fmod many
noncomputable def pDraw (rs : List (Option (Int × Int))) : FnT := fun ws σ => match ws with
  | [.m j, .d (.int many)] => (match σ[j]? with
    | some [.opq 0, .int (.ofNat spot)] => (match rs[spot]? with
      | some (some (mn, v)) => if mn = many then some (.int v, σ.set j [.opq 0, .int (.ofNat (spot + 1))]) else none
      | _ => none)
    | _ => none)
  | _ => none
noncomputable def Told (cells : List Int) (rs : List (Option (Int × Int))) : Prop := ∀ (spot : Nat) mn v, rs[spot]? = some (some (mn, v)) → spot < 8 ∧ 0 < mn ∧ mn < 1000 ∧ drawVal cells spot mn = v

section
variable {O : Nat → D} {F : Nat → FnT} {G : Nat → Option D} {srt : List D → Option (List D)}

theorem reads_set {σ : Store} {j : Nat} {l l' : List D} (hj : σ[j]? = some l) (h : ∀ (Z : Zd) vs, RDs O Z vs l → RDs O Z vs l') : Reads O σ (σ.set j l') := by
  refine ⟨by simp, fun i a b e1 e2 Z vs r => ?_⟩
  by_cases q : i = j
  · subst q
    rw [hj] at e1; cases e1
    rw [List.getElem?_set_self (List.getElem?_eq_some_iff.mp hj).1] at e2
    cases e2
    exact h Z vs r
  · rw [List.getElem?_set_ne (Ne.symm q)] at e2
    rw [e1] at e2; cases e2
    exact r
theorem opq_to {k : Nat} {Z : Zd} {vs : List Value} {l : List D} (h : RDs O Z vs (.opq k :: l)) : RDs O Z vs (O k :: l) := by
  cases h with | cons a r => cases a with | opq _ a => exact .cons a r
theorem to_opq {k : Nat} {Z : Zd} {vs : List Value} {l : List D} (h : RDs O Z vs (O k :: l)) : RDs O Z vs (.opq k :: l) := by
  cases h with | cons a r => exact .cons (.opq k a) r

theorem dflt_at : ∀ spot : Nat, spot < 8 → dIdx [.int 0, .int 2, .int 0, .int 0, .int 1, .int 0, .int 0, .int 0] ((spot : Int).fmod 8) = some (.int (dflt[spot]?.getD 0))
  | 0, _ => rfl
  | 1, _ => rfl
  | 2, _ => rfl
  | 3, _ => rfl
  | 4, _ => rfl
  | 5, _ => rfl
  | 6, _ => rfl
  | 7, _ => rfl
  | _ + 8, h => absurd h (by omega)
theorem draw_ev {cells : List Int} {σ : Store} {j spot : Nat} {many v : Int} (hc : cells.length < 100) (hj : σ[j]? = some [.lst (cells.map .int), .int spot]) (hs : spot < 8) (h0 : 0 < many) (h1 : many < 1000) (hv : drawVal cells spot many = v) :
    exS F G srt 30 σ [some (.m j), some (.d (.int many)), none] ms_law_draw = some (.ret (.d (.int v)), [some (.m j), some (.d (.int many)), some (.d (.int spot))], σ.set j [.lst (cells.map .int), .int (spot + 1 : Nat)]) := by
  have hl : j < σ.length := (List.getElem?_eq_some_iff.mp hj).1
  have e1 : dIdx [.lst (cells.map .int), .int spot] 1 = some (.int spot) := rfl
  have hsm : small many = true := decide_eq_true (by omega)
  have e2 : dIdx [.lst (cells.map .int), .int (spot + 1 : Nat)] 0 = some (.lst (cells.map .int)) := rfl
  have hj2 : (σ.set j [.lst (cells.map .int), .int (spot + 1 : Nat)])[j]? = some [.lst (cells.map .int), .int (spot + 1 : Nat)] := List.getElem?_set_self hl
  have la : evBlt srt (σ.set j [.lst (cells.map .int), .int (spot + 1 : Nat)]) .len [.d (.lst (cells.map .int))] = some (.int cells.length) := by
    rw [len_small (by rw [List.length_map]; show cells.length ≤ 1000000; omega), List.length_map]
  have em : many ≠ 0 := by omega
  have s1 : small 1 = true := small_one
  simp only [Int.natCast_add, Int.natCast_one, Int.cast_ofNat_Int] at hj2 la e2 ⊢
  unfold drawVal at hv
  cases hcs : cells[spot]? with
  | some a =>
    rw [hcs] at hv
    simp only at hv
    subst hv
    have hlt : (spot : Int) < (cells.length : Int) := by have := (List.getElem?_eq_some_iff.mp hcs).1; omega
    have e3 : dIdx (cells.map D.int) (spot : Int) = some (.int a) := by rw [dIdx_nat (by omega), List.getElem?_map, hcs]; rfl
    have ab : ∀ σ, evBlt srt σ .abs [.d (.int a)] = some (.int (if a < 0 then -a else a)) := fun _ => rfl
    simp [ms_law_draw, s_cons, x_set, x_item, x_cond, x_ret, e_var, e_int, e_idx, e_bin, e_cmp, e_blt, l_cons, l_nil, wD, hj, e1, dBin, hj2, la, e2, dCmp, asTru, hlt, e3, ab, hsm, em, s1]
  | none =>
    rw [hcs] at hv
    simp only at hv
    have hge : ¬ ((spot : Int) < (cells.length : Int)) := by have := List.getElem?_eq_none_iff.mp hcs; omega
    have e3 : dIdx [.int 0, .int 2, .int 0, .int 0, .int 1, .int 0, .int 0, .int 0] ((spot : Int).fmod 8) = some (.int (dflt[spot]?.getD 0)) := by
      exact dflt_at spot hs
    have s8 : small 8 = true := rfl
    simp [ms_law_draw, s_cons, s_nil, x_set, x_item, x_cond, x_ret, e_var, e_int, e_idx, e_bin, e_cmp, e_blt, e_tup, l_cons, l_nil, wD, wDs, hj, e1, dBin, hj2, la, e2, dCmp, asTru, hge, e3, hsm, em, s1, s8, big, hv]

theorem run_draw {cells : List Int} {rs : List (Option (Int × Int))} (hc : cells.length < 100) (hO : O 0 = .lst (cells.map .int)) (H : Told cells rs) : FnRun F G srt O 2 3 ms_law_draw (pDraw rs) := by
  intro xs σ r σ' h
  unfold pDraw at h
  split at h
  · rename_i j many
    split at h
    · rename_i spot hj
      split at h
      · rename_i mn v hr
        split at h
        · rename_i hm
          subst hm
          cases h
          obtain ⟨h1, h2, h3, h4⟩ := H spot mn v hr
          have hl : j < σ.length := (List.getElem?_eq_some_iff.mp hj).1
          have r1 : Reads O σ (σ.set j [.lst (cells.map .int), .int spot]) := reads_set hj fun Z vs q => by have := opq_to q; rw [hO] at this; exact this
          have e := draw_ev (F := F) (G := G) (srt := srt) (σ := σ.set j [.lst (cells.map .int), .int spot]) hc (List.getElem?_set_self hl) h1 h2 h3 h4
          rw [List.set_set] at e
          have r2 : Reads O (σ.set j [.lst (cells.map .int), .int (spot + 1 : Nat)]) (σ.set j [.opq 0, .int (.ofNat (spot + 1))]) := by
            have := reads_set (O := O) (σ := σ.set j [.lst (cells.map .int), .int (spot + 1 : Nat)]) (l' := [.opq 0, .int (.ofNat (spot + 1))]) (List.getElem?_set_self hl) fun Z vs q => to_opq (by rw [hO]; exact q)
            rwa [List.set_set] at this
          refine ⟨rfl, _, _, _, .back r2 (.read r1 (runs_of only 30 _ _ _ _ _ _ e)), ?_⟩
          simp only [fnRes]
          rw [List.take_of_length_le (by simp)]
        · cases h
      · cases h
    · cases h
  · cases h
end
end Mine


namespace Mine
open PySem.AutoSeq1 (wpAny_loadPart')
open PySem.MeetsSeq PySem.MeetsSeq2 PySem.MeetsSeq3 PySem.SeqRoads2

theorem ltInts_drop {ns ms : List Int} {i : Nat} (h1 : i < ns.length) (h2 : i < ms.length) : ltInts (ns.drop i) (ms.drop i) = if ns[i] = ms[i] then ltInts (ns.drop (i + 1)) (ms.drop (i + 1)) else decide (ns[i] < ms[i]) := by
  rw [List.drop_eq_getElem_cons h1, List.drop_eq_getElem_cons h2, ltInts]
theorem ltInts_end {ns ms : List Int} {i : Nat} (h : ns.length ≤ i ∨ ms.length ≤ i) (hi : i ≤ ns.length) (hj : i ≤ ms.length) : ltInts (ns.drop i) (ms.drop i) = decide (ns.length < ms.length) := by
  rcases h with h | h
  · have e : i = ns.length := by omega
    subst e
    rw [List.drop_length]
    by_cases q : ns.length < ms.length
    · rw [List.drop_eq_getElem_cons q]; simp [ltInts, q]
    · rw [List.drop_eq_nil_of_le (by omega)]; simp [ltInts, q]
  · have e : i = ms.length := by omega
    subst e
    rw [List.drop_length]
    have q : ¬ ns.length < ms.length := by omega
    cases ns.drop ms.length <;> simp [ltInts, q]

theorem lt_loop (l b : Addr) (vs us : List Value) (ns ms : List Int) (n n2 : Nat) (hv : IntsAre vs ns) (hu : IntsAre us ms) (k : Nat) :
    ∀ i : Nat, ns.length - i = k → i ≤ ns.length → i ≤ ms.length → Meets (Builtin.«list.__eq__.loop» ⟨[.ref l, .ref b, rawInt i, rawInt 0], []⟩)
      (fun A R s => s.heap.get? l = some (listOf vs.toArray n) ∧ s.heap.get? b = some (listOf us.toArray n2) ∧ R (.ok (.ret (.bool (ltInts (ns.drop i) (ms.drop i))))) s) := by
  have fin : ∀ i : Nat, (ns.length ≤ i ∨ ms.length ≤ i) → i ≤ ns.length → i ≤ ms.length → Meets (Builtin.«list.__eq__.loop» ⟨[.ref l, .ref b, rawInt i, rawInt 0], []⟩)
      (fun A R s => s.heap.get? l = some (listOf vs.toArray n) ∧ s.heap.get? b = some (listOf us.toArray n2) ∧ R (.ok (.ret (.bool (ltInts (ns.drop i) (ms.drop i))))) s) := by
    intro i hor hi hj prog w A R s h
    obtain ⟨hp, g, d, tk, os⟩ := s; obtain ⟨hl, hb, h⟩ := h
    have hl' : hp.get? l = some { cls := .type "list", dict := none, data := .seq vs.toArray n, slots := #[] } := hl
    have hb' : hp.get? b = some { cls := .type "list", dict := none, data := .seq us.toArray n2, slots := #[] } := hb
    rw [ltInts_end hor hi hj] at h
    have lv := hv.length
    have lu := hu.length
    have hn : (match (vs.toArray[((i : Nat) : Int).toNat]?, us.toArray[((i : Nat) : Int).toNat]?) with | (some _, some _) => true | _ => false) = false := by
      rcases hor with q | q
      · have : vs.toArray[((i : Nat) : Int).toNat]? = none := by simp; omega
        rw [this]
      · have : us.toArray[((i : Nat) : Int).toNat]? = none := by simp; omega
        rw [this]
        cases vs.toArray[((i : Nat) : Int).toNat]? <;> rfl
    wp_walk using wpAny_loadPart' hl', wpAny_loadPart' hb'
    cases e1 : vs.toArray[((i : Nat) : Int).toNat]? with
    | none =>
      wp_walk using wpAny_loadPart' hl', wpAny_loadPart' hb'
      show R (.ok (.ret (.bool (decide (vs.toArray.size < us.toArray.size))))) _
      rw [List.size_toArray, List.size_toArray, lv, lu]
      exact h
    | some x =>
      cases e2 : us.toArray[((i : Nat) : Int).toNat]? with
      | none =>
        wp_walk using wpAny_loadPart' hl', wpAny_loadPart' hb'
        show R (.ok (.ret (.bool (decide (vs.toArray.size < us.toArray.size))))) _
        rw [List.size_toArray, List.size_toArray, lv, lu]
        exact h
      | some y => rw [e1, e2] at hn; cases hn
  induction k with
  | zero => intro i hk hi hj; exact fin i (.inl (by omega)) hi hj
  | succ k ih =>
    intro i hk hi hj
    by_cases hms : ms.length ≤ i
    · exact fin i (.inr hms) hi hj
    · intro prog w A R s h
      obtain ⟨hp, g, d, tk, os⟩ := s; obtain ⟨hl, hb, h⟩ := h
      have hl' : hp.get? l = some { cls := .type "list", dict := none, data := .seq vs.toArray n, slots := #[] } := hl
      have hb' : hp.get? b = some { cls := .type "list", dict := none, data := .seq us.toArray n2, slots := #[] } := hb
      have lv := hv.length
      have lu := hu.length
      have h1 : i < ns.length := by omega
      have h2 : i < ms.length := by omega
      have h1' : i < vs.length := by omega
      have h2' : i < us.length := by omega
      obtain ⟨t, et⟩ := ints_at hv i h1' h1
      obtain ⟨u, eu⟩ := ints_at hu i h2' h2
      rw [ltInts_drop h1 h2] at h
      wp_walk using wpAny_loadPart' hl', wpAny_loadPart' hb'
      have hi1 : vs.toArray[((i : Nat) : Int).toNat]? = some (.int ns[i] t) := by simp [h1', et]
      have hi2 : us.toArray[((i : Nat) : Int).toNat]? = some (.int ms[i] u) := by simp [h2', eu]
      have hc : ((i : Int) + 1) = ((i + 1 : Nat) : Int) := by push_cast; rfl
      rw [hi1, hi2]
      refine wpAny_bind ((EqGives.int ns[i] ms[i] t u).at _ _ prog w _ _ ?_)
      cases hbb : (ns[i] == ms[i]) with
      | true =>
        rw [if_pos (by simpa using hbb)] at h
        wp_walk
        rw [hc]
        exact ⟨plainId_quiet plain_eq_loop _, codeAny_builtin entry_eq_loop (by
          rw [Around.under_plainId plain_eq_loop _]
          exact ih (i + 1) (by omega) (by omega) (by omega) prog w A R _ ⟨hl, hb, h⟩)⟩
      | false =>
        rw [if_neg (by simpa using hbb)] at h
        wp_walk using wpAny_loadPart' hl', wpAny_loadPart' hb'
        rw [hi1, hi2]
        refine wpAny_bind (show wpAny _ _ (richCompare .Lt _ _) _ _ _ from lt_int (Q := fun v s' => wpAny _ _ (ret v) _ _ s') ?_)
        wp_walk
        exact h
end Mine


namespace Mine
open PySem.AutoSeq1 (wpAny_loadPart')
open PySem.MeetsSeq PySem.MeetsSeq2 PySem.MeetsSeq3 PySem.SeqRoads2

theorem list_lt (l b : Addr) (vs us : List Value) (ns ms : List Int) (n n2 : Nat) (hv : IntsAre vs ns) (hu : IntsAre us ms) : Meets (Builtin.«list.__lt__» ⟨[.ref l, .ref b], []⟩)
      (fun _ R s => s.heap.get? l = some (listOf vs.toArray n) ∧ s.heap.get? b = some (listOf us.toArray n2) ∧ R (.ok (.ret (.bool (ltInts ns ms)))) s) := by
  intro prog w A R s h
  obtain ⟨hp, g, d, tk, os⟩ := s; obtain ⟨hl, hb, h⟩ := h
  have hl' : hp.get? l = some { cls := .type "list", dict := none, data := .seq vs.toArray n, slots := #[] } := hl
  have hb' : hp.get? b = some { cls := .type "list", dict := none, data := .seq us.toArray n2, slots := #[] } := hb
  have f3 := AutoSeq1.sub_list_list
  wp_walk using wpAny_loadPart' hl', wpAny_loadPart' hb'
  exact ⟨plainId_quiet plain_eq_loop _, codeAny_builtin entry_eq_loop (by
    rw [Around.under_plainId plain_eq_loop _]
    exact lt_loop l b vs us ns ms n n2 hv hu _ 0 rfl (Nat.zero_le _) (Nat.zero_le _) prog w A R _ ⟨hl, hb, by simpa using h⟩)⟩

/-- the tree of questions, answered by a pure order -/
noncomputable def runT {α : Type} (n : Nat) (lt : Nat → Nat → Bool) : KasT α → Option α
  | .ret a => some a
  | .ask i j k => if i < n ∧ j < n then runT n lt (k (lt i j)) else none

section
variable {prog : Program} {w : World} {A : Around} {E : Value → Shared → Prop} {s : Shared}

theorem one_lt {l b : Addr} {vs us : List Value} {ns ms : List Int} {n n2 : Nat} {Q : Bool → Shared → Prop} (hu : A.units < cLine) (hl : s.heap.get? l = some (listOf vs.toArray n)) (hb : s.heap.get? b = some (listOf us.toArray n2)) (hv : IntsAre vs ns) (hw : IntsAre us ms)
    (h : Q (ltInts ns ms) s) : wpAny (model prog w) A (keyLt' oneType' (.ref l) (.ref b)) Q E s := by
  rw [keyLt'_oneType, oneLt'_eq]
  simp only [if_true]
  refine wpAny_bind (wpAny_cRoomFor hu ?_)
  refine wpAny_bind (wpAny_callSpecialIfBound?_slot ⟨_, hl, rfl⟩ F.slot_list_lt (call_meets F.slot_list_lt ⟨_, hl, rfl⟩ F.entry_list_lt (F.args_list_lt_2 _ _) (list_lt l b vs us ns ms n n2 hv hw) ⟨hl, hb, ?_⟩))
  exact wpAny_truthy_bool h

theorem run_pure {α : Type} {n : Nat} {lt : Nat → Nat → Bool} {cmp : Nat → Nat → (Bool → Shared → Prop) → Shared → Prop} {Q : α → Shared → Prop} (hc : ∀ i j C, i < n → j < n → C (lt i j) s → cmp i j C s) : ∀ (t : KasT α) (a : α), runT n lt t = some a → Q a s → t.kasWp cmp Q s
  | .ret a, b, h, q => by cases h; exact q
  | .ask i j k, b, h, q => by
    rw [runT] at h
    split at h
    · rename_i hb
      exact hc i j _ hb.1 hb.2 (run_pure hc (k (lt i j)) b h q)
    · cases h

theorem sort_body {a : Addr} {vs : List Value} {n : Nat} {P : PySem.Fin → Shared → Prop} {lt : Nat → Nat → Bool} {p : Array Nat} (ho : s.heap.get? a = some (seqObj "list" vs.toArray n)) (h2 : 2 ≤ vs.length) (h64 : vs.length < 64)
    (hT : ∀ h', (∀ b o, b ≠ a → s.heap.get? b = some o → h'.get? b = some o) → ∀ v ∈ vs, Looks (model prog w) h' (typeOf v) (.type "list"))
    (hc : ∀ h', (∀ b o, b ≠ a → s.heap.get? b = some o → h'.get? b = some o) → ∀ i j C, i < vs.length → j < vs.length → C (lt i j) { s with heap := h' } → kas_ask prog w A oneType' vs i j C { s with heap := h' })
    (hr : runT vs.length lt (kas_sort vs.length) = some p)
    (h : ∀ h' c, (∀ b o, b ≠ a → s.heap.get? b = some o → h'.get? b = some o) → h'.get? a = some (listOf (List.toArray (p.toList.map fun i => vs.getD i Value.none)) c) → P (.done (.ret .none)) { s with heap := h' }) :
    wpAny (model prog w) A (Builtin.«list.sort» ⟨[.ref a], []⟩) P E s := by
  have ha : a < s.heap.objs.size := Heap.lt_size ho
  obtain ⟨e1, ho1⟩ : ∃ e1, (s.heap.update a (Obj.mapSeq fun _ => (#[] : Array Value))).get? a = some (seqObj "list" #[] e1) := ⟨_, get?_update_seq ho fun _ => #[]⟩
  generalize hh : (((s.heap.update a (Obj.mapSeq fun _ => (#[] : Array Value))).push (seqObj "tuple" vs.toArray 0)).push (seqObj "list" #[] 0)) = h1
  have kp : ∀ b o, b ≠ a → s.heap.get? b = some o → h1.get? b = some o := fun b o nb e => by
    rw [← hh]
    exact Heap.get?_push_of_some _ (Heap.get?_push_of_some _ (by rw [Heap.get?_update_ne _ _ _ _ nb]; exact e))
  have g1 : h1.get? a = some (seqObj "list" #[] e1) := by
    rw [← hh]
    exact Heap.get?_push_of_some _ (Heap.get?_push_of_some _ ho1)
  rw [list_sort_plain]
  refine wpAny_bind (listItems_at ho rfl ?_)
  refine wpAny_bind (listUpdate_at ho rfl ?_ (by rw [List.size_toArray, sizeLine_eq]; omega) (Nat.zero_le _))
  refine wpAny_bind (seqEpoch_at ho1 rfl ?_)
  refine wpAny_bind (wpAny_newTuple ?_ (by show vs.length ≤ _; rw [sizeLine_eq]; omega))
  refine wpAny_bind (wpAny_newList ?_ (Nat.zero_le _))
  refine wpAny_holding ?_
  show wpAny (model prog w) A _ P E { s with heap := ((s.heap.update a (Obj.mapSeq fun _ => (#[] : Array Value))).push (seqObj "tuple" vs.toArray 0)).push (seqObj "list" #[] 0) }
  rw [hh]
  dsimp only
  have hn2 : ¬ vs.toArray.size < 2 := by rw [List.size_toArray]; omega
  rw [if_neg hn2, if_neg hn2]
  refine wpAny_bind (kas_kind (s := { s with heap := h1 }) (vs := vs) (T := .type "list") h2 (hT h1 kp) (by decide) (by decide) ?_)
  have est : SortSt.mk' oneType' (vs.toArray.zip vs.toArray) #[] 7 none = kas_st oneType' (pairsOf vs) (List.toArray (List.range vs.length)) := by
    have e := kas_range (pairsOf vs)
    rw [pairsOf_size] at e
    show SortSt.mk' oneType' (pairsOf vs) #[] 7 none = SortSt.mk' oneType' ((List.toArray (List.range vs.length)).map (kas_item (pairsOf vs))) #[] 7 none
    rw [e]
  have ask : (kas_sort vs.length).kasWp (kas_cmp prog w A oneType' (pairsOf vs)) (fun p' s' => p' = p ∧ s' = { s with heap := h1 }) { s with heap := h1 } := by
    rw [← kas_ask_eq]
    exact run_pure (hc h1 kp) _ p hr ⟨rfl, rfl⟩
  have run := kas_runs (E := E) (Q := fun _ st' s' => p.size = vs.length ∧ arrOf st' = p.map (kas_item (pairsOf vs)) ∧ failedOf st' = none ∧ s' = { s with heap := h1 })
    h2 h64 (fun p' st' s' a1 a2 a3 a4 => by obtain ⟨rfl, rfl⟩ := a4; exact ⟨a1, a2, a3, rfl⟩) ask
  rw [← est] at run
  refine wpAny_bind (wpAny_mono run ?_ fun _ _ e => e)
  rintro ⟨⟨⟩, st'⟩ s' ⟨hp, har, hf, rfl⟩
  dsimp only
  have hout : (arrOf st').map (·.2) = List.toArray (p.toList.map fun i => vs.getD i Value.none) := by
    apply Array.toList_inj.mp
    rw [har, Array.map_map, Array.toList_map]
    exact List.map_congr_left fun i _ => by show (kas_item (pairsOf vs) i).2 = _; rw [kas_item_eq]
  have hsz : (List.toArray (p.toList.map fun i => vs.getD i Value.none)).size = vs.length := by rw [List.size_toArray, List.length_map, Array.length_toList, hp]
  rw [hout]
  obtain ⟨c2, hc2⟩ : ∃ c2, (h1.update a (Obj.mapSeq fun _ => List.toArray (p.toList.map fun i => vs.getD i Value.none))).get? a = some (seqObj "list" (List.toArray (p.toList.map fun i => vs.getD i Value.none)) c2) := ⟨_, get?_update_seq g1 fun _ => List.toArray (p.toList.map fun i => vs.getD i Value.none)⟩
  refine wpAny_bind (seqEpoch_at g1 rfl ?_)
  refine wpAny_bind (listUpdate_at g1 rfl ?_ (Nat.zero_le _) (Nat.le_trans (Nat.le_of_eq hsz) (by rw [sizeLine_eq]; omega)))
  rw [hf]
  simp only [bne_self_eq_false, Bool.false_eq_true, if_false]
  refine wpAny_pure (h _ c2 (fun b o nb e => ?_) hc2)
  rw [Heap.get?_update_ne _ _ _ _ nb]
  exact kp b o nb e

/-- fewer than two items: nothing is asked -/
theorem sort_few {a : Addr} {vs : List Value} {n : Nat} {P : PySem.Fin → Shared → Prop} (ho : s.heap.get? a = some (seqObj "list" vs.toArray n)) (h2 : vs.length < 2)
    (h : ∀ h' c, (∀ b o, b ≠ a → s.heap.get? b = some o → h'.get? b = some o) → h'.get? a = some (listOf vs.toArray c) → P (.done (.ret .none)) { s with heap := h' }) :
    wpAny (model prog w) A (Builtin.«list.sort» ⟨[.ref a], []⟩) P E s := by
  have ha : a < s.heap.objs.size := Heap.lt_size ho
  obtain ⟨e1, ho1⟩ : ∃ e1, (s.heap.update a (Obj.mapSeq fun _ => (#[] : Array Value))).get? a = some (seqObj "list" #[] e1) := ⟨_, get?_update_seq ho fun _ => #[]⟩
  generalize hh : (((s.heap.update a (Obj.mapSeq fun _ => (#[] : Array Value))).push (seqObj "tuple" vs.toArray 0)).push (seqObj "list" #[] 0)) = h1
  have kp : ∀ b o, b ≠ a → s.heap.get? b = some o → h1.get? b = some o := fun b o nb e => by
    rw [← hh]
    exact Heap.get?_push_of_some _ (Heap.get?_push_of_some _ (by rw [Heap.get?_update_ne _ _ _ _ nb]; exact e))
  have g1 : h1.get? a = some (seqObj "list" #[] e1) := by
    rw [← hh]
    exact Heap.get?_push_of_some _ (Heap.get?_push_of_some _ ho1)
  rw [list_sort_plain]
  refine wpAny_bind (listItems_at ho rfl ?_)
  refine wpAny_bind (listUpdate_at ho rfl ?_ (by rw [List.size_toArray, sizeLine_eq]; omega) (Nat.zero_le _))
  refine wpAny_bind (seqEpoch_at ho1 rfl ?_)
  refine wpAny_bind (wpAny_newTuple ?_ (by show vs.length ≤ _; rw [sizeLine_eq]; omega))
  refine wpAny_bind (wpAny_newList ?_ (Nat.zero_le _))
  refine wpAny_holding ?_
  show wpAny (model prog w) A _ P E { s with heap := ((s.heap.update a (Obj.mapSeq fun _ => (#[] : Array Value))).push (seqObj "tuple" vs.toArray 0)).push (seqObj "list" #[] 0) }
  rw [hh]
  dsimp only
  have hn2 : vs.toArray.size < 2 := by rw [List.size_toArray]; omega
  rw [if_pos hn2, if_pos hn2]
  refine wpAny_bind (wpAny_pure ?_)
  rw [StateT.run_pure]
  refine wpAny_bind (wpAny_pure ?_)
  dsimp only
  have hout : (arrOf (SortSt.mk' general' (vs.toArray.zip vs.toArray) #[] 7 none)).map (·.2) = vs.toArray := by
    show (vs.toArray.zip vs.toArray).map (·.2) = vs.toArray
    have : ∀ l : List Value, (l.zip l).map (·.2) = l := fun l => by
      induction l with
      | nil => rfl
      | cons x l ih => simp [ih]
    apply Array.toList_inj.mp
    simpa using this vs
  refine wpAny_bind (seqEpoch_at g1 rfl ?_)
  obtain ⟨c2, hc2⟩ : ∃ c2, (h1.update a (Obj.mapSeq fun _ => vs.toArray)).get? a = some (seqObj "list" vs.toArray c2) := ⟨_, get?_update_seq g1 fun _ => vs.toArray⟩
  refine wpAny_bind (listUpdate_at g1 rfl ?_ (Nat.zero_le _) (by show ((vs.toArray.zip vs.toArray).map (·.2)).size ≤ _; rw [sizeLine_eq]; simp; omega))
  simp only [bne_self_eq_false, Bool.false_eq_true, if_false]
  refine wpAny_pure (h _ c2 (fun b o nb e => ?_) ?_)
  · rw [Heap.get?_update_ne _ _ _ _ nb]
    exact kp b o nb e
  · show (h1.update a (Obj.mapSeq fun _ => (arrOf (SortSt.mk' general' (vs.toArray.zip vs.toArray) #[] 7 none)).map (·.2))).get? a = _
    rw [hout]
    exact hc2

theorem typeIs_look {M : Model} {h : Heap} {a : Addr} {o : Obj} (ho : h.get? a = some o) : Looks M h (typeOf (.ref a)) o.cls := (Looks.ld ho).andThen .now

/-- sorted, upon lists of ints -/
theorem sorted_lists {l : Addr} {vs : List Value} {nn : Nat} {nss : List (List Int)} {Q : Value → Shared → Prop} {out : List Value} (hu : A.units + 64 < cLine) (hl : s.heap.get? l = some (listOf vs.toArray nn)) (h64 : vs.length < 64)
    (hi : ∀ v ∈ vs, ∃ a us n, v = .ref a ∧ s.heap.get? a = some (listOf (List.toArray us) n) ∧ ∃ ns, IntsAre us ns)
    (hlt : ∀ i j (h1 : i < vs.length) (h2 : j < vs.length), ∀ a b us ws n m, vs[i] = .ref a → vs[j] = .ref b → s.heap.get? a = some (listOf (List.toArray us) n) → s.heap.get? b = some (listOf (List.toArray ws) m) → IntsAre us (nss.getD i []) ∧ IntsAre ws (nss.getD j []))
    (hr : vs.length < 2 ∧ out = vs ∨ ∃ p : Array Nat, 2 ≤ vs.length ∧ runT vs.length (fun i j => ltInts (nss.getD i []) (nss.getD j [])) (kas_sort vs.length) = some p ∧ out = p.toList.map fun i => vs.getD i Value.none)
    (h : ∀ h' c, (∀ b o, s.heap.get? b = some o → h'.get? b = some o) → h'.get? (s.heap.objs.size + 1) = some (listOf out.toArray c) → Q (.ref (s.heap.objs.size + 1)) { s with heap := h' }) :
    wpAny (model prog w) A (call (.builtin "sorted") [.ref l]) Q E s := by
  refine Calls.call_function_entry kind_sorted plain_sorted entry_sorted (args_sorted1 _) ?_
  unfold Builtin.«sorted»
  refine wpAny_bind (m := checkCount "sorted" 1 1 _) (wpAny_pure ?_)
  refine wpAny_bind (collect_list (isList_of hl) ?_ (by rw [sizeLine_eq]; omega))
  refine wpAny_bind (wpAny_newList ?_ (by rw [sizeLine_eq]; omega))
  have hsz : ((s.heap.push (seqObj "list" #[] 0)).update s.heap.objs.size (Obj.mapSeq (· ++ vs.toArray))).objs.size = s.heap.objs.size + 1 := by
    rw [Heap.size_update, size_push']
  have hoL : (((s.heap.push (seqObj "list" #[] 0)).update s.heap.objs.size (Obj.mapSeq (· ++ vs.toArray))).push (seqObj "list" vs.toArray 0)).get? (s.heap.objs.size + 1) = some (seqObj "list" vs.toArray 0) := by
    rw [← hsz]; exact Heap.get?_push_size _ rfl
  have keep : ∀ b o, s.heap.get? b = some o → (((s.heap.push (seqObj "list" #[] 0)).update s.heap.objs.size (Obj.mapSeq (· ++ vs.toArray))).push (seqObj "list" vs.toArray 0)).get? b = some o := fun b o q => by
    have hlt : b < s.heap.objs.size := Heap.lt_size q
    rw [Heap.get?_push_ne _ _ _ (by rw [hsz]; exact Nat.ne_of_lt (Nat.lt_succ_of_lt hlt)), Heap.get?_update_ne _ _ _ _ (Nat.ne_of_lt hlt), Heap.get?_push_ne _ _ _ (Nat.ne_of_lt hlt)]
    exact q
  show wpAny _ _ _ _ _ { s with heap := ((s.heap.push (seqObj "list" #[] 0)).update s.heap.objs.size (Obj.mapSeq (· ++ vs.toArray))).push (seqObj "list" vs.toArray 0) }
  rw [hsz]
  generalize ((s.heap.push (seqObj "list" #[] 0)).update s.heap.objs.size (Obj.mapSeq (· ++ vs.toArray))).push (seqObj "list" vs.toArray 0) = h1 at *
  have ne : ∀ {b o}, s.heap.get? b = some o → b ≠ s.heap.objs.size + 1 := fun q => Nat.ne_of_lt (Nat.lt_succ_of_lt (Heap.lt_size q))
  refine wpAny_bind (wpAny_holding (wpAny_call_entry slot_list_sort ⟨_, hoL, rfl⟩ entry_list_sort ?body (args_list_sort _)))
  case body =>
    rcases hr with ⟨h2, rfl⟩ | ⟨p, h2, hp, rfl⟩
    · refine sort_few (s := { s with heap := h1 }) hoL h2 fun h' c k1 k2 => ?_
      exact ⟨_, rfl, wpAny_pure ⟨_, rfl, h h' c (fun b o q => k1 b o (ne q) (keep b o q)) k2⟩⟩
    · refine sort_body (s := { s with heap := h1 }) hoL h2 h64 (fun h' k v hv => ?_) (fun h' k i j C b1 b2 hC => ?_) hp fun h' c k1 k2 => ?_
      · obtain ⟨a, us, n, rfl, g, _⟩ := hi v hv
        exact typeIs_look (k a _ (ne g) (keep a _ g))
      · obtain ⟨a, us, n, e1, g1, _⟩ := hi vs[i] (List.getElem_mem b1)
        obtain ⟨b, ws, m, e2, g2, _⟩ := hi vs[j] (List.getElem_mem b2)
        obtain ⟨q1, q2⟩ := hlt i j b1 b2 a b us ws n m e1 e2 g1 g2
        show wpAny _ _ (keyLt' oneType' (vs.getD i Value.none) (vs.getD j Value.none)) _ _ _
        have d1 : vs.getD i Value.none = .ref a := by rw [← e1]; simp [b1]
        have d2 : vs.getD j Value.none = .ref b := by rw [← e2]; simp [b2]
        rw [d1, d2]
        exact one_lt (s := { s with heap := h' }) (by show A.units + 1 + 1 < _; omega) (k a _ (ne g1) (keep a _ g1)) (k b _ (ne g2) (keep b _ g2)) q1 q2 hC
      · exact ⟨_, rfl, wpAny_pure ⟨_, rfl, h h' c (fun b o q => k1 b o (ne q) (keep b o q)) k2⟩⟩
end

noncomputable def lints (l : List D) : Option (List (List Int)) := match l with
  | [] => some []
  | .lst x :: r => (dInts x).bind fun y => (lints r).map fun z => y :: z
  | _ => none
noncomputable def srtL : List D → Option (List D) := fun l => (lints l).bind fun x => if l.length < 64 then (if l.length < 2 then some l else (runT l.length (fun i j => ltInts (x.getD i []) (x.getD j [])) (kas_sort l.length)).bind fun p => if p.toList.all (fun i => decide (i < l.length)) then some (p.toList.map fun i => l.getD i (.opq 0)) else none) else none

section
variable {O : Nat → D} {B : Heap} {Z : Zd} {α : List Addr} {σ : Store} {prog : Program} {w : World} {b : Nat}
theorem lints_get : ∀ {l : List D} {x : List (List Int)}, lints l = some x → ∀ (i : Nat) d, l[i]? = some d → ∃ ds, d = .lst ds ∧ dInts ds = some (x.getD i [])
  | [], x, h, i, d, e => by cases e
  | a :: r, x, h, i, d, e => by
    unfold lints at h
    split at h
    · rename_i e'; cases e'
    · rename_i y r' e'
      cases e'
      obtain ⟨z, hz, h⟩ := b2 h
      obtain ⟨q, hq, h⟩ := m2 h
      subst h
      cases i with
      | zero => cases e; exact ⟨y, rfl, hz⟩
      | succ i => simpa using lints_get hq i d e
    · cases h
theorem RDs.pick {vs : List Value} {l : List D} (r : RDs O Z vs l) : ∀ (is : List Nat), (∀ i ∈ is, i < l.length) → RDs O Z (is.map fun i => vs.getD i Value.none) (is.map fun i => l.getD i (.opq 0))
  | [], _ => .nil
  | i :: is, h => by
    have hi := h i (by simp)
    have hi' : i < vs.length := by rw [r.length]; exact hi
    obtain ⟨v, e, rd⟩ := r.get (List.getElem?_eq_getElem hi)
    rw [List.map_cons, List.map_cons]
    refine .cons ?_ (RDs.pick r is fun j hj => h j (List.mem_cons_of_mem _ hj))
    have e1 : vs.getD i Value.none = v := by rw [List.getD_eq_getElem?_getD, e]; rfl
    have e2 : l.getD i (.opq 0) = l[i] := by rw [List.getD_eq_getElem?_getD, List.getElem?_eq_getElem hi]; rfl
    rw [e1, e2]
    exact rd
theorem srt_ok : SrtOk O B prog w b srtL := by
  intro A s E Z α σ v x l l' Q rm I r el e k
  unfold srtL at e
  obtain ⟨nss, hn, e⟩ := b2 e
  split at e
  · rename_i h64
    obtain ⟨a, vs, n, rfl, hg, rd⟩ := list_of I r el
    have hlen := rd.length
    have item : ∀ (i : Nat) v, vs[i]? = some v → ∃ b us m, v = .ref b ∧ s.heap.get? b = some (listOf (List.toArray us) m) ∧ IntsAre us (nss.getD i []) := fun i v hv => by
      obtain ⟨d, hd, rv⟩ := rd.getv hv
      obtain ⟨ds, rfl, hi⟩ := lints_get hn i d hd
      cases rv with
      | lst z q => exact ⟨_, _, _, rfl, I.led _ _ z, IntsAre_of q hi⟩
    have fin : ∀ out, RDs O Z out l' → ∀ h' c, (∀ b o, s.heap.get? b = some o → h'.get? b = some o) → h'.get? (s.heap.objs.size + 1) = some (listOf out.toArray c) → Q (.ref (s.heap.objs.size + 1)) { s with heap := h' } := fun out ro h' c hk hc =>
      k.list I ro s.toks hk (by
        cases q : s.heap.get? (s.heap.objs.size + 1) with
        | none => rfl
        | some o => exact absurd (Heap.lt_size q) (Nat.not_lt.mpr (Nat.le_succ _))) hc
    have go : ∀ out, RDs O Z out l' → (vs.length < 2 ∧ out = vs ∨ ∃ p : Array Nat, 2 ≤ vs.length ∧ runT vs.length (fun i j => ltInts (nss.getD i []) (nss.getD j [])) (kas_sort vs.length) = some p ∧ out = p.toList.map fun i => vs.getD i Value.none) →
        wpAny (model prog w) A (call (.builtin "sorted") [.ref a]) Q E s := fun out ro hr => by
      refine sorted_lists (nss := nss) (out := out) (by have := rm.units; omega) hg (by omega) (fun v hv => ?_) (fun i j h1 h2 a b us ws n m e1 e2 g1 g2 => ?_) hr (fin out ro)
      · obtain ⟨i, hi, rfl⟩ := List.mem_iff_getElem.mp hv
        obtain ⟨b, us, m, e1, g1, q⟩ := item i _ (List.getElem?_eq_getElem hi)
        exact ⟨b, us, m, e1, g1, _, q⟩
      · obtain ⟨a', us', n', f1, f2, f3⟩ := item i _ (List.getElem?_eq_getElem h1)
        obtain ⟨b', ws', m', f4, f5, f6⟩ := item j _ (List.getElem?_eq_getElem h2)
        rw [e1] at f1; cases f1
        rw [e2] at f4; cases f4
        rw [g1] at f2; cases f2
        rw [g2] at f5; cases f5
        exact ⟨f3, f6⟩
    split at e
    · rename_i h2
      cases e
      exact go vs rd (.inl ⟨by omega, rfl⟩)
    · rename_i h2
      obtain ⟨p, hp, e⟩ := b2 e
      split at e
      · rename_i hb
        cases e
        rw [← hlen] at hp
        refine go _ (rd.pick p.toList fun i hi => by simpa using List.all_eq_true.mp hb i hi) (.inr ⟨p, by omega, hp, rfl⟩)
      · cases e
  · cases e
end
end Mine


namespace Mine

/-! partitions, by pure words upon numbers -/
noncomputable def natsOf : List D → Option (List Nat)
  | [] => some []
  | .int (.ofNat n) :: r => (match natsOf r with
    | some y => some (n :: y)
    | none => none)
  | _ :: _ => none
abbrev nI (n : Nat) : D := .int (.ofNat n)
noncomputable def nlst (o : List Nat) : D := .lst (o.map nI)
noncomputable def cntN (p : Nat) : List Nat → Nat
  | [] => 0
  | a :: r => match Nat.beq a p with
    | true => Nat.succ (cntN p r)
    | false => cntN p r
noncomputable def maxN (a : Nat) : List Nat → Nat
  | [] => a
  | b :: r => match Nat.blt a b with
    | true => maxN b r
    | false => maxN a r
noncomputable def pOften : FnT := fun ws σ => match ws with
  | [.d (.lst l)] => (match natsOf l with
    | some ns => (match Nat.blt ns.length 900 with
      | true => some (.int (.ofNat (maxN 0 (ns.map fun p => cntN p ns))), σ)
      | false => none)
    | none => none)
  | _ => none
noncomputable def lotsG (rec : Nat → List Nat → Option (List (List Nat))) (n : Nat) : List Nat → Option (List (List Nat))
  | [] => some []
  | p :: r => match Nat.ble p n with
    | true => (match rec (n - p) (p :: r) with
      | some x => (match lotsG rec n r with
        | some y => some (x.map (fun o => p :: o) ++ y)
        | none => none)
      | none => none)
    | false => lotsG rec n r
noncomputable def lotsI : Nat → Nat → List Nat → Option (List (List Nat))
  | 0, _, _ => none
  | b + 1, n, ps => match n with
    | 0 => some [[]]
    | m + 1 => (match lotsG (lotsI b) (m + 1) ps with
      | some y => (match Nat.blt y.length 900 with
        | true => some y
        | false => none)
      | none => none)
noncomputable def pLots (b : Nat) : FnT := fun ws σ => match ws with
  | [.d (.int (.ofNat n)), .d (.lst ps)] => (match natsOf ps with
    | some ns => (match Nat.blt ns.length 900 with
      | true => (match lotsI b n ns with
        | some y => some (.lst (y.map nlst), σ)
        | none => none)
      | false => none)
    | none => none)
  | _ => none

theorem natsOf_eq : ∀ {ds : List D} {ns : List Nat}, natsOf ds = some ns → ds = ns.map nI
  | [], _, h => by cases h; rfl
  | .int (.ofNat n) :: ds, ns, h => by
    unfold natsOf at h
    split at h
    · rename_i y hy
      cases h
      rw [natsOf_eq hy]
      rfl
    · cases h
  | .int (.negSucc _) :: _, _, h => by cases h
  | .bool _ :: _, _, h => by cases h
  | .tup _ :: _, _, h => by cases h
  | .lst _ :: _, _, h => by cases h
  | .opq _ :: _, _, h => by cases h
theorem natsOf_map : ∀ ns : List Nat, natsOf (ns.map nI) = some ns
  | [] => rfl
  | n :: ns => by
    rw [List.map_cons]
    show (match natsOf (ns.map nI) with | some y => some (n :: y) | none => none) = _
    rw [natsOf_map ns]
theorem tE {α : Type} {P : Prop} {c : Bool} {x : Option α} {y : α} (h : (match c with
    | true => x
    | false => none) = some y) (k : c = true → x = some y → P) : P := by
  cases c with
  | true => exact k rfl h
  | false => cases h
theorem blt_lt {a b : Nat} (h : Nat.blt a b = true) : a < b := Nat.le_of_ble_eq_true h
theorem cnt_cons (p a : Nat) (r : List Nat) : cntN p (a :: r) = if a = p then cntN p r + 1 else cntN p r := by
  rw [cntN]
  by_cases h : a = p
  · subst h; rw [Nat.beq_refl, if_pos rfl]
  · rw [if_neg h]
    cases e : Nat.beq a p with
    | true => exact absurd (Nat.eq_of_beq_eq_true e) h
    | false => rfl
theorem cnt_le (p : Nat) : ∀ xs : List Nat, cntN p xs ≤ xs.length
  | [] => Nat.le_refl _
  | a :: xs => by
    have := cnt_le p xs
    rw [cnt_cons]
    split
    · exact Nat.succ_le_succ this
    · exact Nat.le_succ_of_le this
theorem maxI_nat : ∀ (l : List Nat) (a : Nat), maxI (a : Int) (l.map Int.ofNat) = (maxN a l : Int)
  | [], a => rfl
  | b :: l, a => by
    rw [List.map_cons, maxI, maxN]
    cases h : Nat.blt a b with
    | true => rw [if_pos (show (a : Int) < Int.ofNat b from Int.ofNat_lt.mpr (blt_lt h))]; exact maxI_nat l b
    | false => rw [if_neg (show ¬ (a : Int) < Int.ofNat b from fun q => by rw [show Nat.blt a b = true from Nat.ble_eq_true_of_le (Int.ofNat_lt.mp q)] at h; cases h)]; exact maxI_nat l a
theorem lotsG_len {rec : Nat → List Nat → Option (List (List Nat))} {b : Nat} (hr : ∀ n ps y, rec n ps = some y → ∀ o ∈ y, o.length ≤ b) {n : Nat} : ∀ (ps : List Nat) (y : List (List Nat)), lotsG rec n ps = some y → ∀ o ∈ y, o.length ≤ b + 1
  | [], y, h => by cases h; intro o ho; cases ho
  | p :: r, y, h => by
    unfold lotsG at h
    split at h
    · split at h
      · rename_i x hx
        split at h
        · rename_i y' hy
          cases h
          intro o ho
          rcases List.mem_append.mp ho with ho | ho
          · obtain ⟨o', h', rfl⟩ := List.mem_map.mp ho
            exact Nat.succ_le_succ (hr _ _ _ hx o' h')
          · exact lotsG_len hr r y' hy o ho
        · cases h
      · cases h
    · exact lotsG_len hr r y h
theorem lotsI_succ {b n : Nat} {ps : List Nat} {y : List (List Nat)} (h : lotsI (b + 1) n ps = some y) : (n = 0 ∧ y = [[]]) ∨ (n ≠ 0 ∧ lotsG (lotsI b) n ps = some y ∧ y.length < 900) := by
  cases n with
  | zero => cases h; exact .inl ⟨rfl, rfl⟩
  | succ m =>
    unfold lotsI at h
    simp only at h
    split at h
    · rename_i y' hy
      exact tE h fun hl h => by cases h; exact .inr ⟨Nat.succ_ne_zero _, hy, blt_lt hl⟩
    · cases h
theorem lotsI_len : ∀ (b : Nat) (n : Nat) (ps : List Nat) (y : List (List Nat)), lotsI b n ps = some y → y.length < 900 ∧ ∀ o ∈ y, o.length ≤ b
  | 0, _, _, _, h => by cases h
  | b + 1, n, ps, y, h => by
    rcases lotsI_succ h with ⟨_, rfl⟩ | ⟨_, hy, hl⟩
    · exact ⟨by decide, fun o ho => by rw [List.mem_singleton.mp ho]; exact Nat.zero_le _⟩
    · exact ⟨hl, lotsG_len (fun n ps y e => (lotsI_len b n ps y e).2) ps y hy⟩

section
variable {O : Nat → D} {F : Nat → FnT} {G : Nat → Option D} {srt : List D → Option (List D)} {n : Nat} {σ : Store} {ρ : Rho}
theorem e_from {a i : ME} : evE F G srt (n + 1) σ ρ (.from' a i) = (evE F G srt n σ ρ a).bind fun p => (evE F G srt n p.2 ρ i).bind fun q => match q.1 with
      | .d (.int k) => (wList q.2 p.1).bind fun l => if 0 ≤ k && small k && decide (l.length ≤ big) then some (.d (.lst (l.drop k.toNat)), q.2) else none
      | _ => none := rfl
theorem e_lst' {es : List ME} : evE F G srt (n + 1) σ ρ (.lst es) = (evL (evE F G srt n) ρ σ es).bind fun p => (wDs p.1).bind fun ds => if ds.length ≤ big then some (.d (.lst ds), p.2) else none := rfl
theorem i_val {r : EvT} {e : ME} {l : List D} {σ1 : Store} (h : r σ ρ e = some (.d (.lst l), σ1)) (hl : l.length ≤ big) : evI r σ ρ .val [e] = some (l, none, σ1) := by
  unfold evI
  rw [l_cons, h]
  simp only [Option.bind_some, l_nil, Option.map_some]
  rw [if_pos hl]

theorem eq_nat (a p : Nat) : decide (Int.ofNat a = Int.ofNat p) = decide (a = p) := by
  by_cases h : a = p
  · rw [h, decide_eq_true rfl, decide_eq_true rfl]
  · rw [decide_eq_false h, decide_eq_false fun q => h (Int.ofNat.inj q)]
theorem cnt_loop {p : Nat} {k m : Nat} {st : Option (Nat × List D)} (hst : stays st σ = true) (hl : ρ.length = k) (hm : ρ[m]? = some (some (.d (nI p)))) : ∀ xs : List Nat, evC (evE F G srt (n + 4)) ρ (.int 1) false st (some (.cmp .eq (.var k) (.var m))) σ (xs.map nI) = some (List.replicate (cntN p xs) (.int 1), σ)
  | [] => rfl
  | a :: xs => by
    have hmk : m < ρ.length := (List.getElem?_eq_some_iff.mp hm).1
    have ek : (ρ ++ [some (W.d (nI a))])[k]? = some (some (.d (nI a))) := by rw [List.getElem?_append_right (by omega), hl, Nat.sub_self]; rfl
    have em : (ρ ++ [some (W.d (nI a))])[m]? = some (some (.d (nI p))) := by rw [List.getElem?_append_left hmk, hm]
    have ih := cnt_loop hst hl hm xs
    have cd : evE F G srt (n + 4) σ (ρ ++ [some (W.d (nI a))]) (.cmp .eq (.var k) (.var m)) = some (.d (.bool (decide (a = p))), σ) := by
      have v1 : evE F G srt (n + 3) σ (ρ ++ [some (W.d (nI a))]) (.var k) = some (.d (nI a), σ) := by rw [e_var, ek]
      have v2 : evE F G srt (n + 3) σ (ρ ++ [some (W.d (nI a))]) (.var m) = some (.d (nI p), σ) := by rw [e_var, em]
      rw [e_cmp, v1]
      simp only [Option.bind_some, v2, wD]
      show some (W.d (.bool (decide (Int.ofNat a = Int.ofNat p))), σ) = _
      rw [eq_nat]
    rw [List.map_cons, evC]
    simp only [binds1, Bool.false_eq_true, if_false, Option.bind_some, cd, asTru, Option.map_some]
    by_cases hz : a = p
    · rw [cnt_cons, if_pos hz, decide_eq_true hz, if_pos rfl, show evE F G srt (n + 4) σ (ρ ++ [some (W.d (nI a))]) (.int 1) = some (.d (.int 1), σ) from rfl]
      simp only [Option.bind_some, wD, hst, if_true, ih, Option.map_some, List.replicate_succ]
    · rw [cnt_cons, if_neg hz, decide_eq_false hz]
      simp only [Bool.false_eq_true, if_false, hst, if_true, ih]

/-- how often a number stands in a list, as the text counts it -/
theorem cnt_ev {ns : List Nat} {p : Nat} {k m : Nat} {e : ME} (hl : ρ.length = k) (hm : ρ[m]? = some (some (.d (nI p)))) (he : evE F G srt (n + 4) σ ρ e = some (.d (nlst ns), σ)) (hn : ns.length < 900) :
    evE F G srt (n + 6) σ ρ (.blt .len [.comp (.int 1) false .val [e] (some (.cmp .eq (.var k) (.var m)))]) = some (.d (nI (cntN p ns)), σ) := by
  have hb : (ns.map nI).length ≤ big := by rw [List.length_map]; show ns.length ≤ 1000000; omega
  have hc : (List.replicate (cntN p ns) (D.int 1)).length ≤ big := by rw [List.length_replicate]; have := cnt_le p ns; show _ ≤ 1000000; omega
  have c := cnt_loop (F := F) (G := G) (srt := srt) (n := n) (σ := σ) (st := none) rfl hl hm ns
  have ev : evE F G srt (n + 5) σ ρ (.comp (.int 1) false .val [e] (some (.cmp .eq (.var k) (.var m)))) = some (.d (.lst (List.replicate (cntN p ns) (.int 1))), σ) := by
    rw [e_comp, i_val he hb]
    simp only [Option.bind_some, c, Option.map_some]
  rw [e_blt, l_cons, ev]
  simp only [Option.bind_some, l_nil, Option.map_some, len_small hc, List.length_replicate]
  rfl

theorem often_loop {ns : List Nat} (hn : ns.length < 900) : ∀ xs : List Nat, evC (evE F G srt (n + 6)) [some (.d (nlst ns))] (.blt .len [.comp (.int 1) false .val [.var 0] (some (.cmp .eq (.var 2) (.var 1)))]) false none none σ (xs.map nI) = some (xs.map fun p => nI (cntN p ns), σ)
  | [] => rfl
  | a :: xs => by
    have c := cnt_ev (F := F) (G := G) (srt := srt) (n := n) (σ := σ) (ρ := [some (.d (nlst ns)), some (.d (nI a))]) (k := 2) (m := 1) (e := .var 0) rfl rfl rfl hn
    have ih := often_loop hn xs
    rw [List.map_cons, evC]
    simp only [binds1, Bool.false_eq_true, if_false, Option.bind_some, if_true, List.cons_append, List.nil_append, c, wD, stays, ih, Option.map_some, List.map_cons]

theorem run_often : FnRun F G srt O 1 1 ms_law_often pOften := by
  intro xs σ r σ' h
  unfold pOften at h
  split at h
  · split at h
    · rename_i ns hx
      obtain rfl := natsOf_eq hx
      refine tE h fun hn h => ?_
      have hn := blt_lt hn
      cases h
      refine run1 (n := 20) (ρ' := [some (.d (nlst ns))]) ?_ rfl
      have lp := often_loop (F := F) (G := G) (srt := srt) (n := 10) (σ := σ) hn ns
      have hb : (ns.map nI).length ≤ big := by rw [List.length_map]; show ns.length ≤ 1000000; omega
      have hv : evE F G srt 16 σ [some (.d (nlst ns))] (.var 0) = some (.d (.lst (ns.map nI)), σ) := rfl
      have hm : dInts ((ns.map fun p => nI (cntN p ns))) = some ((ns.map fun p => cntN p ns).map Int.ofNat) := by
        have := dInts_map ((ns.map fun p => cntN p ns).map Int.ofNat)
        rw [List.map_map, List.map_map] at this
        exact this
      have cm : evE F G srt 17 σ [some (.d (nlst ns))] (.comp (.blt .len [.comp (.int 1) false .val [.var 0] (some (.cmp .eq (.var 2) (.var 1)))]) false .val [.var 0] none) = some (.d (.lst (ns.map fun p => nI (cntN p ns))), σ) := by
        rw [e_comp, i_val hv hb]
        simp only [Option.bind_some, lp, Option.map_some]
      have hb2 : [D.int 0].length + (ns.map fun p => nI (cntN p ns)).length ≤ big := by rw [List.length_map]; show 1 + ns.length ≤ 1000000; omega
      have ad : evE F G srt 18 σ [some (.d (nlst ns))] (.bin .add (.lst [.int 0]) (.comp (.blt .len [.comp (.int 1) false .val [.var 0] (some (.cmp .eq (.var 2) (.var 1)))]) false .val [.var 0] none)) = some (.d (.lst (D.int 0 :: ns.map fun p => nI (cntN p ns))), σ) := by
        rw [e_bin, show evE F G srt 17 σ [some (.d (nlst ns))] (.lst [.int 0]) = some (.d (.lst [.int 0]), σ) from rfl]
        simp only [Option.bind_some, cm, wD, dBin, hb2, if_true, Option.map_some, List.cons_append, List.nil_append]
      have mx : evE F G srt 19 σ [some (.d (nlst ns))] (.blt .max [.bin .add (.lst [.int 0]) (.comp (.blt .len [.comp (.int 1) false .val [.var 0] (some (.cmp .eq (.var 2) (.var 1)))]) false .val [.var 0] none)]) = some (.d (nI (maxN 0 (ns.map fun p => cntN p ns))), σ) := by
        rw [e_blt, l_cons, ad]
        simp only [Option.bind_some, l_nil, Option.map_some]
        rw [eB_max]
        simp only [two?, one?, Option.bind_none, Option.none_or, wList, Option.bind_some, dInts, hm, Option.map_some]
        rw [show (0 : Int) = ((0 : Nat) : Int) from rfl, maxI_nat]
        rfl
      unfold ms_law_often
      show exS F G srt 20 σ [some (.d (nlst ns))] _ = _
      rw [s_cons, x_ret, mx]
      rfl
    · cases h
  · cases h

theorem cons_loop {p : Nat} {k m : Nat} (hl : ρ.length = k) (hm : ρ[m]? = some (some (.d (nI p)))) : ∀ xs : List (List Nat), (∀ o ∈ xs, o.length ≤ 900) →
    evC (evE F G srt (n + 4)) ρ (.bin .add (.lst [.var m]) (.var k)) false none none σ (xs.map nlst) = some ((xs.map fun o => p :: o).map nlst, σ)
  | [], _ => rfl
  | a :: xs, h => by
    have hmk : m < ρ.length := (List.getElem?_eq_some_iff.mp hm).1
    have ek : (ρ ++ [some (W.d (nlst a))])[k]? = some (some (.d (nlst a))) := by rw [List.getElem?_append_right (by omega), hl, Nat.sub_self]; rfl
    have em : (ρ ++ [some (W.d (nlst a))])[m]? = some (some (.d (nI p))) := by rw [List.getElem?_append_left hmk, hm]
    have ih := cons_loop hl hm xs fun o ho => h o (List.mem_cons_of_mem _ ho)
    have hb : [nI p].length + (a.map nI).length ≤ big := by rw [List.length_map]; have := h a List.mem_cons_self; show 1 + a.length ≤ 1000000; omega
    have ev : evE F G srt (n + 4) σ (ρ ++ [some (W.d (nlst a))]) (.bin .add (.lst [.var m]) (.var k)) = some (.d (nlst (p :: a)), σ) := by
      have v1 : evE F G srt (n + 2) σ (ρ ++ [some (W.d (nlst a))]) (.var m) = some (.d (nI p), σ) := by rw [e_var, em]
      have v2 : evE F G srt (n + 3) σ (ρ ++ [some (W.d (nlst a))]) (.var k) = some (.d (nlst a), σ) := by rw [e_var, ek]
      have l1 : evE F G srt (n + 3) σ (ρ ++ [some (W.d (nlst a))]) (.lst [.var m]) = some (.d (.lst [nI p]), σ) := by rw [e_lst', l_cons, v1]; rfl
      rw [e_bin, l1]
      simp only [Option.bind_some, v2, wD]
      rw [show dBin .add (.lst [nI p]) (nlst a) = some (.lst ([nI p] ++ a.map nI)) from if_pos hb]
      rfl
    rw [List.map_cons, evC]
    simp only [binds1, Bool.false_eq_true, if_false, Option.bind_some, if_true, ev, wD, stays, ih, Option.map_some, List.map_cons]

noncomputable def lotsBody : List MS := [.cond (.cmp .le (.var 4) (.var 0)) [.set 2 (.bin .add (.var 2) (.comp (.bin .add (.lst [(.var 4)]) (.var 5)) false .val [(.call 17 [(.bin .sub (.var 0) (.var 4)), (.from' (.var 1) (.var 3))])] none))] []]
theorem le_nat (a p : Nat) : decide ((a : Int) ≤ (p : Int)) = decide (a ≤ p) := by
  by_cases h : a ≤ p
  · rw [decide_eq_true h, decide_eq_true (Int.ofNat_le.mpr h)]
  · rw [decide_eq_false h, decide_eq_false fun q => h (Int.ofNat_le.mp q)]
theorem ble_no {a p : Nat} (h : ¬ a ≤ p) : Nat.ble a p = false := by
  cases e : Nat.ble a p with
  | true => exact absurd (Nat.le_of_ble_eq_true e) h
  | false => rfl
noncomputable def rhoL (nn : Nat) (ps : List Nat) (acc : List (List Nat)) (a b : Option W) : Rho := [some (.d (nI nn)), some (.d (nlst ps)), some (.d (.lst (acc.map nlst))), a, b]

theorem sub_ev {nn p : Nat} {ps : List Nat} {acc : List (List Nat)} {w3 : Option W} (h : p ≤ nn) : evE F G srt (n + 2) σ (rhoL nn ps acc w3 (some (.d (nI p)))) (.bin .sub (.var 0) (.var 4)) = some (.d (nI (nn - p)), σ) := by
  show some (W.d (.int ((nn : Int) - (p : Int))), σ) = _
  rw [← Int.ofNat_sub h]
  rfl
theorem lots_loop {b : Nat} (hb : b ≤ 900) (hF : ∀ n ns y σ, ns.length < 900 → lotsI b n ns = some y → F 17 [.d (nI n), .d (nlst ns)] σ = some (.lst (y.map nlst), σ)) {nn : Nat} {ps : List Nat} (hp : ps.length < 900) :
    ∀ (rest : List Nat) (i : Nat) (acc y : List (List Nat)) (w3 w4 : Option W), ps.drop i = rest → lotsG (lotsI b) nn rest = some y → acc.length + y.length < 900 →
    ∃ v3 v4, exEach (exS F G srt (n + 20)) [3, 4] lotsBody none σ (rhoL nn ps acc w3 w4) (dEnum i (rest.map nI)) = some (.next, rhoL nn ps (acc ++ y) v3 v4, σ)
  | [], i, acc, y, w3, w4, _, h, _ => by cases h; exact ⟨w3, w4, by simp [dEnum, exEach]⟩
  | p :: r, i, acc, y, w3, w4, hd, h, hl => by
    have hi : i < ps.length := by
      rcases Nat.lt_or_ge i ps.length with q | q
      · exact q
      · rw [List.drop_of_length_le q] at hd; cases hd
    have hd2 : ps.drop (i + 1) = r := by rw [← List.tail_drop, hd]; rfl
    have bt : bindT (rhoL nn ps acc w3 w4) [3, 4] (.tup [.int i, nI p]) = some (rhoL nn ps acc (some (.d (.int i))) (some (.d (nI p)))) := rfl
    have en : dEnum i ((p :: r).map nI) = .tup [.int i, nI p] :: dEnum (i + 1 : Nat) (r.map nI) := rfl
    unfold lotsG at h
    rw [en, exEach, bt]
    simp only [Option.bind_some]
    have cnd : ∀ m, evE F G srt (m + 2) σ (rhoL nn ps acc (some (.d (.int i))) (some (.d (nI p)))) (.cmp .le (.var 4) (.var 0)) = some (.d (.bool (decide (p ≤ nn))), σ) := fun m => by
      show some (W.d (.bool (decide ((p : Int) ≤ (nn : Int)))), σ) = _
      rw [le_nat]
    by_cases hc : p ≤ nn
    · rw [show Nat.ble p nn = true from Nat.ble_eq_true_of_le hc] at h
      simp only at h
      split at h
      · rename_i x hx
        split at h
        · rename_i y' hy
          cases h
          rw [List.length_append, List.length_map] at hl
          obtain ⟨v3, v4, ih⟩ := lots_loop hb hF hp r (i + 1) (acc ++ x.map fun o => p :: o) y' (some (.d (.int i))) (some (.d (nI p))) hd2 hy (by rw [List.length_append, List.length_map]; omega)
          refine ⟨v3, v4, ?_⟩
          have hlp : (p :: r).length < 900 := by rw [← hd, List.length_drop]; omega
          have xl := lotsI_len b _ _ _ hx
          have fr : evE F G srt (n + 14) σ (rhoL nn ps acc (some (.d (.int i))) (some (.d (nI p)))) (.from' (.var 1) (.var 3)) = some (.d (nlst (p :: r)), σ) := by
            have sm : small (i : Int) = true := decide_eq_true (by show ((i : Int)).natAbs < 2 ^ 62; omega)
            have c1 : (0 ≤ (i : Int) && small i && decide ((ps.map nI).length ≤ big)) = true := by
              rw [sm, Bool.and_true, Bool.and_eq_true, decide_eq_true_eq, decide_eq_true_eq, List.length_map]
              exact ⟨by omega, by show ps.length ≤ 1000000; omega⟩
            rw [e_from, show evE F G srt (n + 13) σ (rhoL nn ps acc (some (.d (.int i))) (some (.d (nI p)))) (.var 1) = some (.d (nlst ps), σ) from rfl]
            simp only [Option.bind_some]
            rw [show evE F G srt (n + 13) σ (rhoL nn ps acc (some (.d (.int i))) (some (.d (nI p)))) (.var 3) = some (.d (.int i), σ) from rfl]
            simp only [Option.bind_some, nlst, wList, c1, if_true, Int.toNat_natCast, ← List.map_drop, hd]
          have cl : evE F G srt (n + 15) σ (rhoL nn ps acc (some (.d (.int i))) (some (.d (nI p)))) (.call 17 [(.bin .sub (.var 0) (.var 4)), (.from' (.var 1) (.var 3))]) = some (.d (.lst (x.map nlst)), σ) := by
            rw [e_call, l_cons, show evE F G srt (n + 14) σ (rhoL nn ps acc (some (.d (.int i))) (some (.d (nI p)))) (.bin .sub (.var 0) (.var 4)) = some (.d (nI (nn - p)), σ) from sub_ev hc]
            simp only [Option.bind_some, l_cons, fr, l_nil, Option.map_some, hF _ _ _ σ hlp hx]
          have cm : evE F G srt (n + 16) σ (rhoL nn ps acc (some (.d (.int i))) (some (.d (nI p)))) (.comp (.bin .add (.lst [(.var 4)]) (.var 5)) false .val [(.call 17 [(.bin .sub (.var 0) (.var 4)), (.from' (.var 1) (.var 3))])] none) = some (.d (.lst ((x.map fun o => p :: o).map nlst)), σ) := by
            rw [e_comp, i_val cl (by rw [List.length_map]; show x.length ≤ 1000000; omega)]
            simp only [Option.bind_some, cons_loop (F := F) (G := G) (srt := srt) (n := n + 11) (σ := σ) (ρ := rhoL nn ps acc (some (.d (.int i))) (some (.d (nI p)))) (p := p) (k := 5) (m := 4) rfl rfl x (fun o ho => Nat.le_trans (xl.2 o ho) hb), Option.map_some]
          have st : ex1 (evE F G srt (n + 18)) (exS F G srt (n + 18)) σ (rhoL nn ps acc (some (.d (.int i))) (some (.d (nI p)))) (.set 2 (.bin .add (.var 2) (.comp (.bin .add (.lst [(.var 4)]) (.var 5)) false .val [(.call 17 [(.bin .sub (.var 0) (.var 4)), (.from' (.var 1) (.var 3))])] none))) = some (.next, rhoL nn ps (acc ++ x.map fun o => p :: o) (some (.d (.int i))) (some (.d (nI p))), σ) := by
            have hbb : (acc.map nlst).length + ((x.map fun o => p :: o).map nlst).length ≤ big := by simp only [List.length_map]; show _ ≤ 1000000; omega
            rw [x_set, e_bin, show evE F G srt (n + 17) σ (rhoL nn ps acc (some (.d (.int i))) (some (.d (nI p)))) (.var 2) = some (.d (.lst (acc.map nlst)), σ) from rfl]
            have cm' : evE F G srt (n + 17) σ (rhoL nn ps acc (some (.d (.int i))) (some (.d (nI p)))) (.comp (.bin .add (.lst [(.var 4)]) (.var 5)) false .val [(.call 17 [(.bin .sub (.var 0) (.var 4)), (.from' (.var 1) (.var 3))])] none) = some (.d (.lst ((x.map fun o => p :: o).map nlst)), σ) := by
              have cl' : evE F G srt (n + 16) σ (rhoL nn ps acc (some (.d (.int i))) (some (.d (nI p)))) (.call 17 [(.bin .sub (.var 0) (.var 4)), (.from' (.var 1) (.var 3))]) = some (.d (.lst (x.map nlst)), σ) := by
                have fr' : evE F G srt (n + 15) σ (rhoL nn ps acc (some (.d (.int i))) (some (.d (nI p)))) (.from' (.var 1) (.var 3)) = some (.d (nlst (p :: r)), σ) := fr
                rw [e_call, l_cons, show evE F G srt (n + 15) σ (rhoL nn ps acc (some (.d (.int i))) (some (.d (nI p)))) (.bin .sub (.var 0) (.var 4)) = some (.d (nI (nn - p)), σ) from sub_ev hc]
                simp only [Option.bind_some, l_cons, fr', l_nil, Option.map_some, hF _ _ _ σ hlp hx]
              rw [e_comp, i_val cl' (by rw [List.length_map]; show x.length ≤ 1000000; omega)]
              simp only [Option.bind_some, cons_loop (F := F) (G := G) (srt := srt) (n := n + 12) (σ := σ) (ρ := rhoL nn ps acc (some (.d (.int i))) (some (.d (nI p)))) (p := p) (k := 5) (m := 4) rfl rfl x (fun o ho => Nat.le_trans (xl.2 o ho) hb), Option.map_some]
            simp only [Option.bind_some, cm', wD, dBin, hbb, if_true, Option.map_some]
            rw [if_pos (by show 2 < 5; decide), ← List.map_append]
            rfl
          have bd : exS F G srt (n + 20) σ (rhoL nn ps acc (some (.d (.int i))) (some (.d (nI p)))) lotsBody = some (.next, rhoL nn ps (acc ++ x.map fun o => p :: o) (some (.d (.int i))) (some (.d (nI p))), σ) := by
            unfold lotsBody
            rw [s_cons, x_cond, cnd (n + 17), decide_eq_true hc]
            simp only [Option.bind_some, asTru, if_true]
            rw [s_cons, st]
            rfl
          rw [bd]
          simp only [Option.bind_some, stays, if_true]
          rw [List.append_assoc] at ih
          exact ih
        · cases h
      · cases h
    · rw [show Nat.ble p nn = false from ble_no hc] at h
      simp only at h
      obtain ⟨v3, v4, ih⟩ := lots_loop hb hF hp r (i + 1) acc y (some (.d (.int i))) (some (.d (nI p))) hd2 h hl
      refine ⟨v3, v4, ?_⟩
      have bd : exS F G srt (n + 20) σ (rhoL nn ps acc (some (.d (.int i))) (some (.d (nI p)))) lotsBody = some (.next, rhoL nn ps acc (some (.d (.int i))) (some (.d (nI p))), σ) := by
        unfold lotsBody
        rw [s_cons, x_cond, cnd (n + 17), decide_eq_false hc]
        rfl
      rw [bd]
      simp only [Option.bind_some, stays, if_true]
      exact ih

theorem run_lots {b : Nat} (hb : b ≤ 900) (hF : ∀ n ns y σ, ns.length < 900 → lotsI b n ns = some y → F 17 [.d (nI n), .d (nlst ns)] σ = some (.lst (y.map nlst), σ)) : FnRun F G srt O 2 5 ms_law_lots (pLots (b + 1)) := by
  intro xs σ r σ' h
  unfold pLots at h
  split at h
  · rename_i nn ps
    split at h
    · rename_i ns hx
      obtain rfl := natsOf_eq hx
      refine tE h fun hn h => ?_
      have hn := blt_lt hn
      split at h
      · rename_i y hy
        cases h
        rcases lotsI_succ hy with ⟨rfl, rfl⟩ | ⟨h0, hy', hl⟩
        · exact run1 (n := 40) (ρ' := [some (.d (nI 0)), some (.d (nlst ns)), none, none, none]) rfl rfl
        · have h0' : ¬ (Int.ofNat nn = 0) := fun q => h0 (Int.ofNat.inj q)
          skip
          · skip
            obtain ⟨v3, v4, lp⟩ := lots_loop (G := G) (srt := srt) (n := 17) (σ := σ) hb hF hn ns 0 [] y none none rfl hy' (by rw [List.length_nil, Nat.zero_add]; exact hl)
            refine run1 (n := 40) (ρ' := rhoL nn ns y v3 v4) ?_ rfl
            have hne : evE F G srt 39 σ [some (.d (nI nn)), some (.d (nlst ns)), none, none, none] (.cmp .eq (.var 0) (.int 0)) = some (.d (.bool false), σ) := by
              simp only [e_cmp, e_var, e_int, List.getElem?_cons_zero, Option.bind_some, wD, Option.map_some]
              show some (W.d (.bool (decide (Int.ofNat nn = 0))), σ) = _
              rw [decide_eq_false h0']
            have hb1 : (ns.map nI).length ≤ big := by rw [List.length_map]; show ns.length ≤ 1000000; omega
            have it : evI (evE F G srt 37) σ (rhoL nn ns [] none none) .enum [.var 1] = some (dEnum 0 (ns.map nI), none, σ) := by
              show (if (ns.map nI).length ≤ big then some (dEnum 0 (ns.map nI), (none : Option (Nat × List D)), σ) else none) = _
              rw [if_pos hb1]
            show exS F G srt 40 σ [some (.d (nI nn)), some (.d (nlst ns)), none, none, none] ms_law_lots = _
            unfold ms_law_lots
            rw [s_cons, x_cond, hne]
            simp only [Option.bind_some, asTru, Bool.false_eq_true, if_false]
            rw [show exS F G srt 39 σ [some (.d (nI nn)), some (.d (nlst ns)), none, none, none] [] = some (.next, [some (.d (nI nn)), some (.d (nlst ns)), none, none, none], σ) from rfl]
            simp only [Option.bind_some]
            rw [s_cons, show ex1 (evE F G srt 38) (exS F G srt 38) σ [some (.d (nI nn)), some (.d (nlst ns)), none, none, none] (.set 2 (.lst [])) = some (.next, rhoL nn ns [] none none, σ) from rfl]
            simp only [Option.bind_some]
            rw [s_cons, x_each, it]
            simp only [Option.bind_some]
            rw [if_pos (by rfl)]
            have lp' : exEach (exS F G srt 37) [3, 4] lotsBody none σ (rhoL nn ns [] none none) (dEnum 0 (ns.map nI)) = _ := lp
            unfold lotsBody at lp'
            rw [lp']
            rfl
      · cases h
    · cases h
  · cases h
end
end Mine


namespace Mine

/-! joining, by pure words -/
noncomputable def remN (a : Nat) : List Nat → Option (List Nat)
  | [] => none
  | b :: r => match Nat.beq b a with
    | true => some r
    | false => (match remN a r with
      | some t => some (b :: t)
      | none => none)
noncomputable def remK (p : Nat) : Nat → List Nat → Option (List Nat)
  | 0, l => some l
  | m + 1, l => match remN p l with
    | some l' => remK p m l'
    | none => none
noncomputable def joinI (d : Nat) : Nat → Nat → List Nat → Option (List Nat)
  | 0, _, _ => none
  | f + 1, at_, l => match l[at_]? with
    | none => some l
    | some p => (match Nat.ble d (cntN p l) with
      | true => (match remK p d l with
        | some l' => joinI d f 0 (l' ++ [d * p])
        | none => none)
      | false => joinI d f (at_ + 1) l)
noncomputable def insN (a : Nat) : List Nat → List Nat
  | [] => [a]
  | b :: r => match Nat.ble a b with
    | true => a :: b :: r
    | false => b :: insN a r
noncomputable def sortN : List Nat → List Nat
  | [] => []
  | a :: r => insN a (sortN r)
noncomputable def pJoined : FnT := fun ws σ => match ws with
  | [.d (.lst l), .d (.int (.ofNat d))] => (match natsOf l with
    | some ns => (match Nat.blt ns.length 60 && (Nat.blt 0 d && Nat.blt d 60) with
      | true => (match joinI d 100 0 ns with
        | some y => some (nlst (sortN y).reverse, σ)
        | none => none)
      | false => none)
    | none => none)
  | _ => none

theorem remI_nat (a : Nat) : ∀ l : List Nat, remI (Int.ofNat a) (l.map Int.ofNat) = (remN a l).map fun t => t.map Int.ofNat
  | [] => rfl
  | b :: r => by
    rw [List.map_cons, remI, remN, remI_nat a r]
    by_cases h : b = a
    · subst h; rw [if_pos rfl, Nat.beq_refl]; rfl
    · rw [if_neg fun q => h (Int.ofNat.inj q)]
      cases e : Nat.beq b a with
      | true => exact absurd (Nat.eq_of_beq_eq_true e) h
      | false => cases remN a r <;> rfl
theorem remN_len {a : Nat} : ∀ {l l' : List Nat}, remN a l = some l' → l'.length + 1 = l.length
  | [], _, h => by cases h
  | b :: r, l', h => by
    unfold remN at h
    split at h
    · cases h; rfl
    · split at h
      · rename_i t ht
        cases h
        have := remN_len ht
        simp only [List.length_cons]; omega
      · cases h
theorem remK_len {a : Nat} : ∀ (m : Nat) {l l' : List Nat}, remK a m l = some l' → l'.length + m = l.length
  | 0, _, _, h => by cases h; rfl
  | m + 1, l, l', h => by
    unfold remK at h
    split at h
    · rename_i t ht
      have h1 := remN_len ht
      have h2 := remK_len m h
      omega
    · cases h
theorem insI_nat (a : Nat) : ∀ l : List Nat, insI (Int.ofNat a) (l.map Int.ofNat) = (insN a l).map Int.ofNat
  | [] => rfl
  | b :: r => by
    rw [List.map_cons, insI, insN]
    by_cases h : a ≤ b
    · rw [if_pos (show Int.ofNat a ≤ Int.ofNat b from Int.ofNat_le.mpr h), Nat.ble_eq_true_of_le h]; rfl
    · rw [if_neg (show ¬ Int.ofNat a ≤ Int.ofNat b from fun q => h (Int.ofNat_le.mp q)), ble_no h, insI_nat a r]; rfl
theorem sortI_nat : ∀ l : List Nat, sortI (l.map Int.ofNat) = (sortN l).map Int.ofNat
  | [] => rfl
  | a :: r => by rw [List.map_cons, sortI, sortI_nat r, insI_nat]; rfl
theorem dInts_nat (l : List Nat) : dInts (l.map nI) = some (l.map Int.ofNat) := by
  have := dInts_map (l.map Int.ofNat)
  rw [List.map_map] at this
  exact this

section
variable {O : Nat → D} {F : Nat → FnT} {G : Nat → Option D} {srt : List D → Option (List D)} {n : Nat} {σ : Store} {ρ : Rho}
theorem x_rem {r : EvT} {rs : ExT} {i : Nat} {e : ME} : ex1 r rs σ ρ (.rem i e) = (r σ ρ e).bind fun p => match p.1, ρ[i]? with
    | .d (.int a), some (some (.m j)) => (p.2[j]?).bind fun l => if l.length ≤ big then (dInts l).bind fun ns => (remI a ns).map fun ns' => (.next, ρ, p.2.set j (ns'.map .int)) else none
    | _, _ => none := rfl
noncomputable def rhoJ (lot : D) (d j at_ : Nat) (w4 w5 : Option W) : Rho := [some (.d lot), some (.d (nI d)), some (.m j), some (.d (nI at_)), w4, w5]
noncomputable def joinBody : List MS := [.sets false [4, 3] [(.idx (.var 2) (.var 3)), (.bin .add (.var 3) (.int 1))],
      .cond (.cmp .ge (.blt .len [(.comp (.int 1) false .val [(.var 2)] (some (.cmp .eq (.var 6) (.var 4))))]) (.var 1)) [.each [5] .range [(.var 1)] [.rem 2 (.var 4)],
        .app 2 (.bin .mul (.var 1) (.var 4)),
        .set 3 (.int 0)] []]

theorem big_of {l : List Nat} (h : l.length < 900) : (l.map nI).length ≤ big := by rw [List.length_map]; show l.length ≤ 1000000; omega

theorem rem_loop {lot : D} {d j at_ p : Nat} : ∀ (m i : Nat) (l l' : List Nat) (w5 : Option W) (σ : Store), σ[j]? = some (l.map nI) → remK p m l = some l' → l.length < 900 →
    ∃ v5, exEach (exS F G srt (n + 6)) [5] [.rem 2 (.var 4)] none σ (rhoJ lot d j at_ (some (.d (nI p))) w5) (steps (i : Int) 1 m) = some (.next, rhoJ lot d j at_ (some (.d (nI p))) v5, σ.set j (l'.map nI))
  | 0, i, l, l', w5, σ, hj, h, _ => by
    cases h
    refine ⟨w5, ?_⟩
    have : σ.set j (l.map nI) = σ := by
      obtain ⟨hl, e⟩ := List.getElem?_eq_some_iff.mp hj
      rw [← e]; exact List.set_getElem_self hl
    rw [this]; rfl
  | m + 1, i, l, l', w5, σ, hj, h, hl => by
    unfold remK at h
    split at h
    · rename_i t ht
      have hjl : j < σ.length := (List.getElem?_eq_some_iff.mp hj).1
      obtain ⟨v5, ih⟩ := rem_loop m (i + 1) t l' (some (.d (.int i))) (σ.set j (t.map nI)) (List.getElem?_set_self hjl) h (by have := remN_len ht; omega)
      refine ⟨v5, ?_⟩
      rw [steps_nat, exEach]
      have bt : bindT (rhoJ lot d j at_ (some (.d (nI p))) w5) [5] (.int i) = some (rhoJ lot d j at_ (some (.d (nI p))) (some (.d (.int i)))) := rfl
      have bd : exS F G srt (n + 6) σ (rhoJ lot d j at_ (some (.d (nI p))) (some (.d (.int i)))) [.rem 2 (.var 4)] = some (.next, rhoJ lot d j at_ (some (.d (nI p))) (some (.d (.int i))), σ.set j (t.map nI)) := by
        rw [s_cons, x_rem, show evE F G srt (n + 5) σ (rhoJ lot d j at_ (some (.d (nI p))) (some (.d (.int i)))) (.var 4) = some (.d (nI p), σ) from rfl]
        simp only [Option.bind_some]
        show ((((σ[j]?).bind fun l => if l.length ≤ big then (dInts l).bind fun ns => (remI (Int.ofNat p) ns).map fun ns' => (Fl.next, rhoJ lot d j at_ (some (.d (nI p))) (some (.d (.int i))), σ.set j (ns'.map D.int)) else none)).bind _) = _
        simp only [hj, Option.bind_some, if_pos (big_of hl), dInts_nat, remI_nat, ht, Option.map_some, List.map_map]
        rfl
      rw [bt]
      simp only [Option.bind_some, bd, stays, if_true]
      rw [ih, List.set_set]
    · cases h

theorem join_loop {lot : D} {d j : Nat} (hd : 0 < d ∧ d < 60) : ∀ (f at_ : Nat) (l y : List Nat) (w4 w5 : Option W) (σ : Store), σ[j]? = some (l.map nI) → l.length < 900 → at_ < 900 → joinI d f at_ l = some y →
    y.length ≤ l.length ∧ ∃ v3 v4 v5, exS F G srt (n + f + 30) σ (rhoJ lot d j at_ w4 w5) [.loop (.cmp .lt (.var 3) (.blt .len [(.var 2)])) joinBody] = some (.next, [some (.d lot), some (.d (nI d)), some (.m j), v3, v4, v5], σ.set j (y.map nI))
  | 0, _, _, _, _, _, _, _, _, _, h => by cases h
  | f + 1, at_, l, y, w4, w5, σ, hj, hl, ha, h => by
    have hjl : j < σ.length := (List.getElem?_eq_some_iff.mp hj).1
    have hb := big_of hl
    have ln : ∀ m ρ', ρ'[2]? = some (some (.m j)) → evE F G srt (m + 2) σ ρ' (.blt .len [.var 2]) = some (.d (nI l.length), σ) := fun m ρ' e2 => by
      rw [e_blt, l_cons, e_var, e2]
      simp only [Option.bind_some, l_nil, Option.map_some]
      show ((((σ[j]?).bind fun l => if l.length ≤ big then some (D.int l.length) else none)).map _) = _
      rw [hj]
      simp only [Option.bind_some]
      rw [if_pos hb, List.length_map]
      rfl
    have cnd : evE F G srt (n + f + 30) σ (rhoJ lot d j at_ w4 w5) (.cmp .lt (.var 3) (.blt .len [.var 2])) = some (.d (.bool (decide (at_ < l.length))), σ) := by
      show evE F G srt (n + f + 29 + 1) _ _ _ = _
      rw [e_cmp, show evE F G srt (n + f + 29) σ (rhoJ lot d j at_ w4 w5) (.var 3) = some (.d (nI at_), σ) from rfl]
      simp only [Option.bind_some, ln (n + f + 27) _ (show (rhoJ lot d j at_ w4 w5)[2]? = _ from rfl), wD]
      show some (W.d (.bool (decide ((at_ : Int) < (l.length : Int)))), σ) = _
      rw [show decide ((at_ : Int) < (l.length : Int)) = decide (at_ < l.length) from decide_eq_decide.mpr Int.ofNat_lt]
    have lp : ∀ X, (∃ v3 v4 v5, ex1 (evE F G srt (n + f + 30)) (exS F G srt (n + f + 30)) σ (rhoJ lot d j at_ w4 w5) (.loop (.cmp .lt (.var 3) (.blt .len [(.var 2)])) joinBody) = some (.next, [some (.d lot), some (.d (nI d)), some (.m j), v3, v4, v5], X)) →
        ∃ v3 v4 v5, exS F G srt (n + (f + 1) + 30) σ (rhoJ lot d j at_ w4 w5) [.loop (.cmp .lt (.var 3) (.blt .len [(.var 2)])) joinBody] = some (.next, [some (.d lot), some (.d (nI d)), some (.m j), v3, v4, v5], X) := fun X q => by
      obtain ⟨v3, v4, v5, q⟩ := q
      refine ⟨v3, v4, v5, ?_⟩
      show exS F G srt (n + f + 30 + 1) _ _ _ = _
      rw [s_cons, q]
      rfl
    unfold joinI at h
    split at h
    · rename_i hn
      cases h
      have hge : ¬ at_ < l.length := Nat.not_lt.mpr (List.getElem?_eq_none_iff.mp hn)
      refine ⟨Nat.le_refl _, lp _ ⟨some (.d (nI at_)), w4, w5, ?_⟩⟩
      have st : σ.set j (l.map nI) = σ := by
        obtain ⟨hl, e⟩ := List.getElem?_eq_some_iff.mp hj
        rw [← e]; exact List.set_getElem_self hl
      rw [x_loop, cnd, decide_eq_false hge, st]
      rfl
    · rename_i p hp
      have hlt : at_ < l.length := (List.getElem?_eq_some_iff.mp hp).1
      -- the item, the next place
      have s1 : ex1 (evE F G srt (n + f + 29)) (exS F G srt (n + f + 29)) σ (rhoJ lot d j at_ w4 w5) (.sets false [4, 3] [(.idx (.var 2) (.var 3)), (.bin .add (.var 3) (.int 1))]) = some (.next, rhoJ lot d j (at_ + 1) (some (.d (nI p))) w5, σ) := by
        have ix : evE F G srt (n + f + 29) σ (rhoJ lot d j at_ w4 w5) (.idx (.var 2) (.var 3)) = some (.d (nI p), σ) := by
          show evE F G srt (n + f + 28 + 1) _ _ _ = _
          rw [e_idx]
          show (((σ[j]?).bind fun l => (dIdx l (Int.ofNat at_)).map fun d => (W.d d, σ))) = _
          rw [hj]
          simp only [Option.bind_some]
          rw [show dIdx (l.map nI) (Int.ofNat at_) = some (nI p) by rw [show (Int.ofNat at_) = ((at_ : Nat) : Int) from rfl, dIdx_nat (by omega), List.getElem?_map, hp]; rfl]
          rfl
        rw [x_sets, l_cons, ix]
        simp only [Option.bind_some]
        rw [show evL (evE F G srt (n + f + 29)) (rhoJ lot d j at_ w4 w5) σ [.bin .add (.var 3) (.int 1)] = some ([.d (nI (at_ + 1))], σ) from rfl]
        rfl
      have hst : stays (some (j, l.map nI)) σ = true := by simp only [stays, hj]; exact deqs_refl _
      have cn : ∀ m ρ', ρ'.length = 6 → ρ'[4]? = some (some (.d (nI p))) → ρ'[2]? = some (some (.m j)) → evE F G srt (m + 6) σ ρ' (.blt .len [(.comp (.int 1) false .val [(.var 2)] (some (.cmp .eq (.var 6) (.var 4))))]) = some (.d (nI (cntN p l)), σ) := fun m ρ' h6 h4 h2 => by
        have c := cnt_loop (F := F) (G := G) (srt := srt) (n := m) (σ := σ) hst h6 h4 l
        have ev : evE F G srt (m + 5) σ ρ' (.comp (.int 1) false .val [(.var 2)] (some (.cmp .eq (.var 6) (.var 4)))) = some (.d (.lst (List.replicate (cntN p l) (.int 1))), σ) := by
          rw [e_comp]
          have iv : evI (evE F G srt (m + 4)) σ ρ' .val [.var 2] = some (l.map nI, some (j, l.map nI), σ) := by
            unfold evI
            rw [l_cons, e_var, h2]
            simp only [Option.bind_some, l_nil, Option.map_some, hj, if_pos hb]
          rw [iv]
          simp only [Option.bind_some, c, Option.map_some]
        have hc : (List.replicate (cntN p l) (D.int 1)).length ≤ big := by rw [List.length_replicate]; have := cnt_le p l; show _ ≤ 1000000; omega
        rw [e_blt, l_cons, ev]
        simp only [Option.bind_some, l_nil, Option.map_some, len_small hc, List.length_replicate]
        rfl
      have cd : evE F G srt (n + f + 28) σ (rhoJ lot d j (at_ + 1) (some (.d (nI p))) w5) (.cmp .ge (.blt .len [(.comp (.int 1) false .val [(.var 2)] (some (.cmp .eq (.var 6) (.var 4))))]) (.var 1)) = some (.d (.bool (decide (d ≤ cntN p l))), σ) := by
        show evE F G srt (n + f + 27 + 1) _ _ _ = _
        rw [e_cmp, show evE F G srt (n + f + 27) σ (rhoJ lot d j (at_ + 1) (some (.d (nI p))) w5) _ = _ from cn (n + f + 21) _ rfl rfl rfl]
        simp only [Option.bind_some]
        rw [show evE F G srt (n + f + 27) σ (rhoJ lot d j (at_ + 1) (some (.d (nI p))) w5) (.var 1) = some (.d (nI d), σ) from rfl]
        simp only [Option.bind_some, wD]
        show some (W.d (.bool (decide ((d : Int) ≤ (cntN p l : Int)))), σ) = _
        rw [le_nat]
      split at h
      · rename_i hc
        have hc := Nat.le_of_ble_eq_true hc
        split at h
        · rename_i l' hr
          have hlen := remK_len d hr
          have hj2 : (σ.set j ((l' ++ [d * p]).map nI))[j]? = some ((l' ++ [d * p]).map nI) := List.getElem?_set_self hjl
          obtain ⟨v5, rl⟩ := rem_loop (F := F) (G := G) (srt := srt) (n := n + f + 21) (lot := lot) (d := d) (at_ := at_ + 1) d 0 l l' w5 σ hj hr hl
          obtain ⟨yl, v3, v4, v6, ih⟩ := join_loop (lot := lot) hd f 0 (l' ++ [d * p]) y (some (.d (nI p))) v5 (σ.set j ((l' ++ [d * p]).map nI)) hj2 (by rw [List.length_append, List.length_singleton]; omega) (by decide) h
          rw [List.length_append, List.length_singleton] at yl
          refine ⟨by omega, lp _ ⟨v3, v4, v6, ?_⟩⟩
          have sd : small (Int.ofNat d) = true := decide_eq_true (by show (Int.ofNat d).natAbs < 2 ^ 62; have := hd.2; show d < 2 ^ 62; omega)
          have e1 : exS F G srt (n + f + 28) σ (rhoJ lot d j (at_ + 1) (some (.d (nI p))) w5) [.each [5] .range [(.var 1)] [.rem 2 (.var 4)], .app 2 (.bin .mul (.var 1) (.var 4)), .set 3 (.int 0)] = some (.next, rhoJ lot d j 0 (some (.d (nI p))) v5, σ.set j ((l' ++ [d * p]).map nI)) := by
            have rg : dRange [nI d] = some (steps 0 1 d) := by
              show (if (small (Int.ofNat d) && decide ((Int.ofNat d).toNat ≤ big)) = true then some (steps 0 1 (Int.ofNat d).toNat) else none) = _
              rw [if_pos (by rw [sd, Bool.true_and]; exact decide_eq_true (by show d ≤ 1000000; have := hd.2; omega))]
              rfl
            have i1 : evI (evE F G srt (n + f + 27)) σ (rhoJ lot d j (at_ + 1) (some (.d (nI p))) w5) .range [.var 1] = some (steps 0 1 d, none, σ) := by
              rw [i_range, show evL (evE F G srt (n + f + 27)) (rhoJ lot d j (at_ + 1) (some (.d (nI p))) w5) σ [.var 1] = some ([.d (nI d)], σ) from rfl]
              simp only [Option.bind_some, wDs, wD, Option.map_some, rg]
            have rl' : exEach (exS F G srt (n + f + 27)) [5] [.rem 2 (.var 4)] none σ (rhoJ lot d j (at_ + 1) (some (.d (nI p))) w5) (steps 0 1 d) = some (.next, rhoJ lot d j (at_ + 1) (some (.d (nI p))) v5, σ.set j (l'.map nI)) := rl
            show exS F G srt (n + f + 27 + 1) _ _ _ = _
            rw [s_cons, x_each, i1]
            simp only [Option.bind_some]
            rw [if_pos (by rfl), rl']
            simp only [Option.bind_some]
            show exS F G srt (n + f + 26 + 1) _ _ _ = _
            have ml : evE F G srt (n + f + 26) (σ.set j (l'.map nI)) (rhoJ lot d j (at_ + 1) (some (.d (nI p))) v5) (.bin .mul (.var 1) (.var 4)) = some (.d (nI (d * p)), σ.set j (l'.map nI)) := by
              show (((if small (Int.ofNat d) = true then some (D.int (Int.ofNat d * Int.ofNat p)) else none)).map _) = _
              rw [if_pos sd]
              rfl
            have hl' : (l'.map nI).length ≤ big := big_of (by omega)
            rw [s_cons, x_app, ml]
            simp only [Option.bind_some, wD]
            show (((σ.set j (l'.map nI))[j]?).bind fun l => if l.length ≤ big then some (Fl.next, rhoJ lot d j (at_ + 1) (some (.d (nI p))) v5, (σ.set j (l'.map nI)).set j (l ++ [nI (d * p)])) else none).bind _ = _
            rw [List.getElem?_set_self hjl]
            simp only [Option.bind_some, if_pos hl', List.set_set]
            rw [List.map_append]
            rfl
          have bd : exS F G srt (n + f + 30) σ (rhoJ lot d j at_ w4 w5) joinBody = some (.next, rhoJ lot d j 0 (some (.d (nI p))) v5, σ.set j ((l' ++ [d * p]).map nI)) := by
            unfold joinBody
            show exS F G srt (n + f + 29 + 1) _ _ _ = _
            rw [s_cons, s1]
            simp only [Option.bind_some]
            show exS F G srt (n + f + 28 + 1) _ _ _ = _
            rw [s_cons, x_cond, cd, decide_eq_true hc]
            simp only [Option.bind_some, asTru, if_true, e1]
            rfl
          rw [x_loop, cnd, decide_eq_true hlt]
          simp only [Option.bind_some, asTru, if_true, bd]
          rw [ih, List.set_set]
        · cases h
      · rename_i hc
        obtain ⟨yl, v3, v4, v5, ih⟩ := join_loop (lot := lot) hd f (at_ + 1) l y (some (.d (nI p))) w5 σ hj hl (by omega) h
        refine ⟨yl, lp _ ⟨v3, v4, v5, ?_⟩⟩
        have hc' : ¬ d ≤ cntN p l := fun q => by rw [show Nat.ble d (cntN p l) = true from Nat.ble_eq_true_of_le q] at hc; cases hc
        have bd : exS F G srt (n + f + 30) σ (rhoJ lot d j at_ w4 w5) joinBody = some (.next, rhoJ lot d j (at_ + 1) (some (.d (nI p))) w5, σ) := by
          unfold joinBody
          show exS F G srt (n + f + 29 + 1) _ _ _ = _
          rw [s_cons, s1]
          simp only [Option.bind_some]
          show exS F G srt (n + f + 28 + 1) _ _ _ = _
          rw [s_cons, x_cond, cd, decide_eq_false hc']
          rfl
        rw [x_loop, cnd, decide_eq_true hlt]
        simp only [Option.bind_some, asTru, if_true, bd]
        exact ih

theorem insN_len (a : Nat) : ∀ l : List Nat, (insN a l).length = l.length + 1
  | [] => rfl
  | b :: r => by
    rw [insN]
    cases Nat.ble a b with
    | true => rfl
    | false => show (insN a r).length + 1 = _; rw [insN_len a r]; rfl
theorem sortN_len : ∀ l : List Nat, (sortN l).length = l.length
  | [] => rfl
  | a :: r => by rw [sortN, insN_len, sortN_len r]; rfl
theorem e_mcopy {a : ME} : evE F G srt (n + 1) σ ρ (.mcopy a) = (evE F G srt n σ ρ a).bind fun p => (wList p.2 p.1).bind fun l => if l.length ≤ big then some (.m p.2.length, p.2 ++ [l]) else none := rfl
theorem e_rev {a : ME} : evE F G srt (n + 1) σ ρ (.rev a) = (evE F G srt n σ ρ a).bind fun p => (wList p.2 p.1).bind fun l => if l.length ≤ big then some (.d (.lst l.reverse), p.2) else none := rfl
theorem sorted_ev {y : List Nat} {j : Nat} (hj : σ[j]? = some (y.map nI)) (hy : y.length < 64) : evBlt srt σ .sorted [.m j] = some (.lst ((sortN y).map nI)) := by
  rw [eB_sorted]
  simp only [one?, wList, Option.bind_some, hj, dSort, dInts_nat, List.length_map, if_pos hy, Option.map_some, sortI_nat, List.map_map]
  rfl

theorem run_joined : FnRun F G srt O 2 6 ms_law_joined pJoined := by
  intro xs σ r σ' h
  unfold pJoined at h
  split at h
  · rename_i l d
    split at h
    · rename_i ns hx
      obtain rfl := natsOf_eq hx
      refine tE h fun hc h => ?_
      have h60 := blt_lt (and_l hc)
      have hd : 0 < d ∧ d < 60 := ⟨blt_lt (and_l (and_r hc)), blt_lt (and_r (and_r hc))⟩
      split at h
      · rename_i y hy
        cases h
        have hj : (σ ++ [ns.map nI])[σ.length]? = some (ns.map nI) := by simp
        obtain ⟨yl, v3, v4, v5, lp⟩ := join_loop (F := F) (G := G) (srt := srt) (n := 20) (lot := nlst ns) (j := σ.length) hd 100 0 ns y none none (σ ++ [ns.map nI]) hj (by omega) (by decide) hy
        have hj2 : ((σ ++ [ns.map nI]).set σ.length (y.map nI))[σ.length]? = some (y.map nI) := List.getElem?_set_self (by simp)
        have hb1 : (ns.map nI).length ≤ big := big_of (by omega)
        have h1 : ex1 (evE F G srt 10) (exS F G srt 10) σ [some (.d (nlst ns)), some (.d (nI d)), none, none, none, none] (.sets true [2, 3] [(.mcopy (.var 0)), (.int 0)]) = some (.next, rhoJ (nlst ns) d σ.length 0 none none, σ ++ [ns.map nI]) := by
          have mc : evE F G srt 10 σ [some (.d (nlst ns)), some (.d (nI d)), none, none, none, none] (.mcopy (.var 0)) = some (.m σ.length, σ ++ [ns.map nI]) := by
            rw [e_mcopy, show evE F G srt 9 σ [some (.d (nlst ns)), some (.d (nI d)), none, none, none, none] (.var 0) = some (.d (.lst (ns.map nI)), σ) from rfl]
            simp only [Option.bind_some, wList, if_pos hb1]
          rw [x_sets, l_cons, mc]
          rfl
        have h3 : exS F G srt 10 ((σ ++ [ns.map nI]).set σ.length (y.map nI)) [some (.d (nlst ns)), some (.d (nI d)), some (.m σ.length), v3, v4, v5] [.ret (.rev (.blt .sorted [(.var 2)]))] = some (.ret (.d (nlst (sortN y).reverse)), [some (.d (nlst ns)), some (.d (nI d)), some (.m σ.length), v3, v4, v5], (σ ++ [ns.map nI]).set σ.length (y.map nI)) := by
          have so : evE F G srt 8 ((σ ++ [ns.map nI]).set σ.length (y.map nI)) [some (.d (nlst ns)), some (.d (nI d)), some (.m σ.length), v3, v4, v5] (.blt .sorted [(.var 2)]) = some (.d (.lst ((sortN y).map nI)), (σ ++ [ns.map nI]).set σ.length (y.map nI)) := by
            rw [e_blt, show evL (evE F G srt 7) [some (.d (nlst ns)), some (.d (nI d)), some (.m σ.length), v3, v4, v5] ((σ ++ [ns.map nI]).set σ.length (y.map nI)) [.var 2] = some ([.m σ.length], (σ ++ [ns.map nI]).set σ.length (y.map nI)) from rfl]
            simp only [Option.bind_some, sorted_ev hj2 (by omega), Option.map_some]
          have hb2 : ((sortN y).map nI).length ≤ big := big_of (by rw [sortN_len]; omega)
          rw [s_cons, x_ret, e_rev, so]
          simp only [Option.bind_some, wList, if_pos hb2, Option.map_some, ← List.map_reverse]
          rfl
        refine ⟨rfl, .ret (.d (nlst (sortN y).reverse)), [some (.d (nlst ns)), some (.d (nI d)), some (.m σ.length), v3, v4, v5], (σ ++ [ns.map nI]).set σ.length (y.map nI), ?_, ?_⟩
        · exact Runs.next (l := [.loop (.cmp .lt (.var 3) (.blt .len [(.var 2)])) joinBody] ++ [.ret (.rev (.blt .sorted [(.var 2)]))]) 10 only h1 (runs_app only 150 _ _ _ _ _ _ _ _ _ lp (runs_of only 10 _ _ _ _ _ _ h3))
        · simp [fnRes]
      · cases h
    · cases h
  · cases h
end
end Mine


namespace Mine

abbrev Orc := List (Option (Int × Int))

noncomputable def P1 : Nat → FnT := fun f => match f with
  | 0 => pGcd
  | _ => fun _ _ => none
noncomputable def P2 : Nat → FnT := fun f => match f with
  | 2 => pRat
  | _ => fun _ _ => none
noncomputable def P3 : Nat → FnT := fun f => match f with
  | 3 => pOp (fun x y => x + y) fun x y => small x && small y
  | 4 => pOp (fun x y => x - y) fun x y => small x && small y
  | 5 => pOp (fun x y => x * y) fun x _ => small x
  | 6 => pOp (fun x _ => x) fun x y => small x && decide (y = 1)
  | 7 => pVast
  | _ => fun _ _ => none
noncomputable def P4 : Nat → FnT := fun f => match f with
  | 9 => pLet
  | 10 => pMixed
  | n => P3 n
noncomputable def P5 (rs : Orc) : Nat → FnT := fun f => match f with
  | 11 => pSmul
  | 12 => pSinv
  | 14 => pDraw rs
  | _ => fun _ _ => none
/-- the functions of the text, with a depth of calls -/
noncomputable def Fx (rs : Orc) : Nat → Nat → FnT
  | 0, f => P5 rs f
  | b + 1, f => match f with
    | 11 => pSmul
    | 12 => pSinv
    | 14 => pDraw rs
    | 8 => exFnF (Fx rs b) G0 srtL 300 2 2 ms_cut
    | 13 => exFnF (Fx rs b) G0 srtL 300 2 5 ms_swhole_power
    | 15 => exFnF (Fx rs b) G0 srtL 300 2 5 ms_law_row
    | 16 => exFnF (Fx rs b) G0 srtL 300 2 4 ms_law_product
    | 17 => pLots (b + 1)
    | 18 => pJoined
    | 19 => pOften
    | 20 => exFnF (Fx rs b) G0 srtL 300 1 1 ms_law_side
    | 21 => exFnF (Fx rs b) G0 srtL 300 1 1 ms_law_mirror
    | _ => fun _ _ => none

/-- what is known of the top, once the text's top has run -/
structure Bs (B : Heap) (mg mb : Str → Option Value) : Prop where
  g : B.Ns mainGlobals mg
  bb : B.Ns builtinsNs mb
  nl : B.NoLimit
  g0 : ∃ v, mg "R0" = some v ∧ ∀ O, RD O (fun a o => B.get? a = some o) v (rz 0)
  g1 : ∃ v, mg "R1" = some v ∧ ∀ O, RD O (fun a o => B.get? a = some o) v (rz 1)
  bn : ∀ t : Blt, mg (bNm t) = none ∧ mb (bNm t) = some (bFn t)
  rn : mg "range" = none ∧ mb "range" = some (.type "range")
  en : mg "enumerate" = none ∧ mb "enumerate" = some (.type "enumerate")
  fns : ∀ f np sl ms, fnTab f = some (np, sl, ms) → ∃ a, mg (T.fn f) = some (.ref a) ∧ FnIs B a T sl np ms

section
variable {O : Nat → D} {B : Heap} {prog : Program} {w : World} {b b' : Nat} {F F' : Nat → FnT} {mg mb : Str → Option Value}

noncomputable def Good (O : Nat → D) (B : Heap) (prog : Program) (w : World) (b : Nat) (F : Nat → FnT) : Prop :=
  ∀ f, (∀ xs σ, F f xs σ = none) ∨ ∃ np sl ms, fnTab f = some (np, sl, ms) ∧ ∀ a, FnIs B a T sl np ms → FnOk O B prog w b a (F f)

theorem FnOk.mono {a : Addr} {pf : FnT} (h : FnOk O B prog w b a pf) (hb : b ≤ b') : FnOk O B prog w b' a pf :=
  fun A s Z α σ σ' vs xs r R rm I rv he K => h A s Z α σ σ' vs xs r R (rm.le hb) I rv he K

theorem gl_of (X : Bs B mg mb) (h : Good O B prog w b F) : Gl O T B prog w b F G0 srtL mg mb := by
  refine ⟨X.g, X.bb, X.nl, fun i d e => ?_, X.bn, X.rn, X.en, fun f xs σ r e => ?_, srt_ok⟩
  · match i, e with
    | 0, e => cases e; obtain ⟨v, h1, h2⟩ := X.g0; exact ⟨v, h1, h2 O⟩
    | 1, e => cases e; obtain ⟨v, h1, h2⟩ := X.g1; exact ⟨v, h1, h2 O⟩
  · rcases h f with q | ⟨np, sl, ms, q1, q2⟩
    · rw [q] at e; cases e
    · obtain ⟨a, ha, hf⟩ := X.fns f np sl ms q1
      obtain ⟨o, fd, _, h1, h2, _⟩ := hf.is
      exact ⟨a, o, fd, ha, h1, h2, q2 a hf⟩

/-- one more def, proved upon the ones below -/
theorem up (X : Bs B mg mb) (h : Good O B prog w b F) {np : Nat} {sl : List Str} {ms : List MS} {pf : FnT} {a : Addr} (D0 : FnIs B a T sl np ms) (hr : FnRun F G0 srtL O np sl.length ms pf) : FnOk O B prog w (b + 1) a pf :=
  fn_run (gl_of X h) D0 hr

theorem good0 : Good O B prog w 0 fun _ _ _ => none := fun _ => .inl fun _ _ => rfl
theorem good1 (X : Bs B mg mb) : Good O B prog w 1 P1 := fun f => match f with
  | 0 => .inr ⟨2, sl_gcd, ms_gcd, rfl, fun _ D0 => up X good0 D0 run_gcd⟩
  | _ + 1 => .inl fun _ _ => rfl
theorem good2 (X : Bs B mg mb) : Good O B prog w 2 P2 := fun f => match f with
  | 2 => .inr ⟨2, sl_rat, ms_rat, rfl, fun _ D0 => up X (good1 X) D0 (run_rat fun _ _ => rfl)⟩
  | 0 => .inl fun _ _ => rfl
  | 1 => .inl fun _ _ => rfl
  | _ + 3 => .inl fun _ _ => rfl
theorem good3 (X : Bs B mg mb) : Good O B prog w 3 P3 := fun f => match f with
  | 3 => .inr ⟨2, sl_radd, ms_radd, rfl, fun _ D0 => up X (good2 X) D0 (run_radd fun _ _ => rfl)⟩
  | 4 => .inr ⟨2, sl_rsub, ms_rsub, rfl, fun _ D0 => up X (good2 X) D0 (run_rsub fun _ _ => rfl)⟩
  | 5 => .inr ⟨2, sl_rmul, ms_rmul, rfl, fun _ D0 => up X (good2 X) D0 (run_rmul fun _ _ => rfl)⟩
  | 6 => .inr ⟨2, sl_rdiv, ms_rdiv, rfl, fun _ D0 => up X (good2 X) D0 (run_rdiv fun _ _ => rfl)⟩
  | 7 => .inr ⟨1, sl_is_vast, ms_is_vast, rfl, fun _ D0 => up X (good2 X) D0 run_vast⟩
  | 0 => .inl fun _ _ => rfl
  | 1 => .inl fun _ _ => rfl
  | 2 => .inl fun _ _ => rfl
  | _ + 8 => .inl fun _ _ => rfl
theorem zr_rz (z : Int) : zr (rz z) = some z := rfl
theorem rats3 : Rats P3 G0 := by
  refine ⟨fun x y σ h1 h2 => ?_, fun x y σ h1 h2 => ?_, fun x y σ h1 => ?_, fun x σ h1 => ?_, rfl, rfl⟩
  · simp [P3, pOp, zr_rz, h1, h2]
  · simp [P3, pOp, zr_rz, h1, h2]
  · simp [P3, pOp, zr_rz, h1]
  · simp [P3, pOp, zr_rz, h1]
theorem vast3 : ∀ x σ, small x = true → P3 7 [.d (rz x)] σ = some (.bool false, σ) := fun x σ h => by
  simp [P3, pVast, zr_rz, h]
theorem good4 (X : Bs B mg mb) : Good O B prog w 4 P4 := fun f => match f with
  | 9 => .inr ⟨1, sl_let, ms_let, rfl, fun _ D0 => up X (good3 X) D0 (run_let vast3)⟩
  | 10 => .inr ⟨3, sl_mixed, ms_mixed, rfl, fun _ D0 => up X (good3 X) D0 (run_mixed rats3)⟩
  | 3 => .inr ⟨2, sl_radd, ms_radd, rfl, fun _ D0 => (up X (good2 X) D0 (run_radd fun _ _ => rfl)).mono (by decide)⟩
  | 4 => .inr ⟨2, sl_rsub, ms_rsub, rfl, fun _ D0 => (up X (good2 X) D0 (run_rsub fun _ _ => rfl)).mono (by decide)⟩
  | 5 => .inr ⟨2, sl_rmul, ms_rmul, rfl, fun _ D0 => (up X (good2 X) D0 (run_rmul fun _ _ => rfl)).mono (by decide)⟩
  | 6 => .inr ⟨2, sl_rdiv, ms_rdiv, rfl, fun _ D0 => (up X (good2 X) D0 (run_rdiv fun _ _ => rfl)).mono (by decide)⟩
  | 7 => .inr ⟨1, sl_is_vast, ms_is_vast, rfl, fun _ D0 => (up X (good2 X) D0 run_vast).mono (by decide)⟩
  | 0 => .inl fun _ _ => rfl
  | 1 => .inl fun _ _ => rfl
  | 2 => .inl fun _ _ => rfl
  | 8 => .inl fun _ _ => rfl
  | _ + 11 => .inl fun _ _ => rfl
theorem rats4 : Rats P4 G0 := ⟨rats3.add, rats3.sub, rats3.mul, rats3.div, rfl, rfl⟩
theorem zrs_rz : ∀ l : List Int, zrs (l.map rz) = some l
  | [] => rfl
  | z :: l => by rw [List.map_cons, zrs, zr_rz, zrs_rz l]
theorem sers4 : Sers P4 := by
  refine ⟨fun z σ h => ?_, fun a b k z σ hk hz => ?_⟩
  · simp [P4, pLet, zr_rz, h]
  · have : P4 10 [.d (.lst (a.map rz)), .d (.lst (b.map rz)), .d (.int k)] σ = pMixed [.d (.lst (a.map rz)), .d (.lst (b.map rz)), .d (.int (.ofNat k))] σ := rfl
    rw [this]
    simp [pMixed, zrs_rz, hk, hz]

theorem good5 (X : Bs B mg mb) {cells : List Int} {rs : Orc} (hc : cells.length < 100) (hO : O 0 = .lst (cells.map .int)) (H : Told cells rs) : Good O B prog w 5 (P5 rs) := fun f => match f with
  | 11 => .inr ⟨2, sl_smul, ms_smul, rfl, fun _ D0 => up X (good4 X) D0 (run_smul sers4)⟩
  | 12 => .inr ⟨1, sl_sinverse, ms_sinverse, rfl, fun _ D0 => up X (good4 X) D0 (run_sinv rats4 sers4)⟩
  | 14 => .inr ⟨2, sl_law_draw, ms_law_draw, rfl, fun _ D0 => up X (good4 X) D0 (run_draw hc hO H)⟩
  | 0 => .inl fun _ _ => rfl
  | 1 => .inl fun _ _ => rfl
  | 2 => .inl fun _ _ => rfl
  | 3 => .inl fun _ _ => rfl
  | 4 => .inl fun _ _ => rfl
  | 5 => .inl fun _ _ => rfl
  | 6 => .inl fun _ _ => rfl
  | 7 => .inl fun _ _ => rfl
  | 8 => .inl fun _ _ => rfl
  | 9 => .inl fun _ _ => rfl
  | 10 => .inl fun _ _ => rfl
  | 13 => .inl fun _ _ => rfl
  | _ + 15 => .inl fun _ _ => rfl

theorem lots_at {rs : Orc} : ∀ (b : Nat) (n : Nat) (ns : List Nat) (y : List (List Nat)) (σ : Store), ns.length < 900 → lotsI b n ns = some y → Fx rs b 17 [.d (nI n), .d (nlst ns)] σ = some (.lst (y.map nlst), σ)
  | 0, _, _, _, _, _, h => by cases h
  | b + 1, n, ns, y, σ, hn, h => by
    show pLots (b + 1) [.d (.int (.ofNat n)), .d (.lst (ns.map nI))] σ = _
    unfold pLots
    simp only [natsOf_map, show Nat.blt ns.length 900 = true from Nat.ble_eq_true_of_le hn, h]
theorem goodx (X : Bs B mg mb) {cells : List Int} {rs : Orc} (hc : cells.length < 100) (hO : O 0 = .lst (cells.map .int)) (H : Told cells rs) : ∀ n, n ≤ 900 → Good O B prog w (5 + n) (Fx rs n)
  | 0, _ => good5 X hc hO H
  | n + 1, hn => fun f => match f with
    | 11 => .inr ⟨2, sl_smul, ms_smul, rfl, fun _ D0 => (up X (good4 X) D0 (run_smul sers4)).mono (by omega)⟩
    | 12 => .inr ⟨1, sl_sinverse, ms_sinverse, rfl, fun _ D0 => (up X (good4 X) D0 (run_sinv rats4 sers4)).mono (by omega)⟩
    | 14 => .inr ⟨2, sl_law_draw, ms_law_draw, rfl, fun _ D0 => (up X (good4 X) D0 (run_draw hc hO H)).mono (by omega)⟩
    | 8 => .inr ⟨2, sl_cut, ms_cut, rfl, fun _ D0 => up X (goodx X hc hO H n (Nat.le_of_succ_le hn)) D0 (fnRun_ex _ _ _ _)⟩
    | 13 => .inr ⟨2, sl_swhole_power, ms_swhole_power, rfl, fun _ D0 => up X (goodx X hc hO H n (Nat.le_of_succ_le hn)) D0 (fnRun_ex _ _ _ _)⟩
    | 15 => .inr ⟨2, sl_law_row, ms_law_row, rfl, fun _ D0 => up X (goodx X hc hO H n (Nat.le_of_succ_le hn)) D0 (fnRun_ex _ _ _ _)⟩
    | 16 => .inr ⟨2, sl_law_product, ms_law_product, rfl, fun _ D0 => up X (goodx X hc hO H n (Nat.le_of_succ_le hn)) D0 (fnRun_ex _ _ _ _)⟩
    | 17 => .inr ⟨2, sl_law_lots, ms_law_lots, rfl, fun _ D0 => up X (goodx X hc hO H n (Nat.le_of_succ_le hn)) D0 (run_lots (Nat.le_of_succ_le hn) (lots_at n))⟩
    | 18 => .inr ⟨2, sl_law_joined, ms_law_joined, rfl, fun _ D0 => up X (goodx X hc hO H n (Nat.le_of_succ_le hn)) D0 run_joined⟩
    | 19 => .inr ⟨1, sl_law_often, ms_law_often, rfl, fun _ D0 => up X (goodx X hc hO H n (Nat.le_of_succ_le hn)) D0 run_often⟩
    | 20 => .inr ⟨1, sl_law_side, ms_law_side, rfl, fun _ D0 => up X (goodx X hc hO H n (Nat.le_of_succ_le hn)) D0 (fnRun_ex _ _ _ _)⟩
    | 21 => .inr ⟨1, sl_law_mirror, ms_law_mirror, rfl, fun _ D0 => up X (goodx X hc hO H n (Nat.le_of_succ_le hn)) D0 (fnRun_ex _ _ _ _)⟩
    | 0 => .inl fun _ _ => rfl
    | 1 => .inl fun _ _ => rfl
    | 2 => .inl fun _ _ => rfl
    | 3 => .inl fun _ _ => rfl
    | 4 => .inl fun _ _ => rfl
    | 5 => .inl fun _ _ => rfl
    | 6 => .inl fun _ _ => rfl
    | 7 => .inl fun _ _ => rfl
    | 9 => .inl fun _ _ => rfl
    | 10 => .inl fun _ _ => rfl
    | _ + 22 => .inl fun _ _ => rfl
end
end Mine


namespace Mine

/-! equality, by computing -/
noncomputable def deqW : Option W → Option W → Bool
  | none, none => true
  | some (.d x), some (.d y) => deq x y
  | some (.m i), some (.m j) => decide (i = j)
  | _, _ => false
theorem deqW_eq {a b : Option W} (h : deqW a b = true) : a = b := by
  unfold deqW at h
  split at h
  · rfl
  · rw [deq_eq h]
  · rw [of_decide_eq_true h]
  · cases h
noncomputable def deqR : Rho → Rho → Bool
  | [], [] => true
  | a :: r, b :: s => deqW a b && deqR r s
  | _, _ => false
theorem deqR_eq : ∀ {a b : Rho}, deqR a b = true → a = b
  | [], [], _ => rfl
  | a :: r, b :: s, h => by rw [deqR, Bool.and_eq_true] at h; rw [deqW_eq h.1, deqR_eq h.2]
  | [], _ :: _, h => by cases h
  | _ :: _, [], h => by cases h
noncomputable def deqS : Store → Store → Bool
  | [], [] => true
  | a :: r, b :: s => deqs a b && deqS r s
  | _, _ => false
theorem deqS_eq : ∀ {a b : Store}, deqS a b = true → a = b
  | [], [], _ => rfl
  | a :: r, b :: s, h => by rw [deqS, Bool.and_eq_true] at h; rw [deqs_eq h.1, deqS_eq h.2]
  | [], _ :: _, h => by cases h
  | _ :: _, [], h => by cases h

/-- forget slots -/
noncomputable def mask : List Bool → Rho → Rho
  | b :: bs, a :: r => (if b then a else none) :: mask bs r
  | _, _ => []
theorem mask_len : ∀ {bs : List Bool} {r : Rho}, bs.length = r.length → (mask bs r).length = r.length
  | [], [], _ => rfl
  | _ :: bs, _ :: r, h => by simp only [mask, List.length_cons] at h ⊢; rw [mask_len (by omega)]
  | [], _ :: _, h => by simp at h
  | _ :: _, [], h => by simp at h
theorem mask_at : ∀ {bs : List Bool} {r : Rho} {i : Nat} {w : W}, (mask bs r)[i]? = some (some w) → r[i]? = some (some w)
  | b :: bs, a :: r, 0, w, h => by
    simp only [mask, List.getElem?_cons_zero, Option.some.injEq] at h ⊢
    cases b with
    | true => exact h
    | false => cases h
  | b :: bs, a :: r, i + 1, w, h => by
    simp only [mask, List.getElem?_cons_succ] at h ⊢
    exact mask_at h
  | [], _, _, _, h => by simp [mask] at h
  | _ :: _, [], _, _, h => by simp [mask] at h

noncomputable def seg (a b : Nat) : List MS := (ms_law.drop a).take (b - a)
noncomputable def fC : List Bool := [false, false, false, true, true, false, false, false, false, false, false, false, false, false, false, false]
noncomputable def no (n : Nat) : Rho := List.replicate n none
noncomputable def iw (i : Int) : Option W := some (.d (.int i))
noncomputable def lw (l : List Int) : Option W := some (.d (.lst (l.map .int)))
noncomputable def oq (i : Nat) : Option W := some (.d (.opq i))
noncomputable def rhoA : Rho := [none, some (.m 0)] ++ no 14
noncomputable def rhoA' (d n k : Int) : Rho := [none, some (.m 0), iw d, iw n, iw k] ++ no 11
noncomputable def rhoB (d n : Int) : Rho := [none, some (.m 0), iw d, iw n, oq 2] ++ no 11
structure Cs where
  d : Int
  n : Int
  spot : Nat
  first : List Int
  every : List Int
noncomputable def rhoC (c : Cs) : Rho := [none, none, iw c.d, iw c.n, oq 2, lw c.first, some (.m 1)] ++ no 9
noncomputable def sigC (c : Cs) : Store := [[.opq 0, .int (.ofNat c.spot)], c.every.map .int]
noncomputable def rhoD (n : Int) : Rho := [none, none, none, iw n, oq 2] ++ no 11
noncomputable def rhoD' (n k : Int) : Rho := [none, none, none, iw n, iw k] ++ no 11
noncomputable def orc (lets : List Int) : Orc := [none, none, none] ++ lets.map fun r => some (3, r)
noncomputable def run (rs : Orc) (σ : Store) (ρ : Rho) (l : List MS) : R3 := exF (Fx rs 16) G0 srtL 400 σ ρ l

noncomputable def chkA (a b c : Int) : Bool := match run [some (2, a), some (4, b), some (2, c)] [[.opq 0, .int (.ofNat 0)]] rhoA (seg 1 2) with
  | some (.next, ρ, σ) => deqR ρ (rhoA' (2 + a) (4 + b) (1 + c)) && deqS σ [[.opq 0, .int (.ofNat 3)]]
  | _ => false
noncomputable def chkC (c : Cs) : Bool := match run [] (sigC c) (rhoC c) (seg 4 10) with
  | some (.next, ρ, _) => decide (ρ.length = 16) && deqR (mask fC ρ) (rhoD c.n)
  | _ => false
noncomputable def chkD (n k : Int) : Bool := match run [] [] (rhoD' n k) (seg 10 15) with
  | some (.ret (.d (.bool true)), _, _) => true
  | _ => false

noncomputable def nums (d n : Nat) : Nat := ((List.range n).filter fun i => (i + 1) % d != 0).length
noncomputable def words : Nat → List (List Int)
  | 0 => [[]]
  | m + 1 => (words m).flatMap fun l => [0 :: l, 1 :: l, 2 :: l]
theorem mem_words : ∀ (l : List Int), (∀ x ∈ l, x = 0 ∨ x = 1 ∨ x = 2) → l ∈ words l.length
  | [], _ => by simp [words]
  | x :: l, h => by
    rw [List.length_cons, words, List.mem_flatMap]
    refine ⟨l, mem_words l fun y hy => h y (List.mem_cons_of_mem _ hy), ?_⟩
    rcases h x (by simp) with rfl | rfl | rfl <;> simp

section
variable {O : Nat → D}

noncomputable def lawO (ns : List Int) : Nat → D
  | 0 => .lst ((ns.take 8).map .int)
  | 2 => .int (1 + drawVal (ns.take 8) 2 2)
  | _ => .int 0
noncomputable def LawP (ns : List Int) : (Nat → FnT) → Prop := fun F => ∃ rs, Told (ns.take 8) rs ∧ F = Fx rs 16
noncomputable def pLaw (ns : List Int) : FnT := fun ws σ => match ws, σ with
  | [.d (.lst l)], [] => if deqs l (ns.map .int) then some (.bool true, []) else none
  | _, _ => none

theorem dv_range (cells : List Int) (spot : Nat) (m : Int) (hm : 0 < m) : 0 ≤ drawVal cells spot m ∧ drawVal cells spot m < m := by
  unfold drawVal
  split
  · exact ⟨Int.fmod_nonneg_of_pos _ hm, Int.fmod_lt_of_pos _ hm⟩
  · exact ⟨Int.fmod_nonneg_of_pos _ hm, Int.fmod_lt_of_pos _ hm⟩

theorem runs_seg {P : (Nat → FnT) → Prop} {rs : Orc} {σ σ1 σ' : Store} {ρ ρ1 ρ' : Rho} {ms l : List MS} {fl : Fl} (hF : P (Fx rs 16)) (h : run rs σ ρ ms = some (.next, ρ1, σ1)) (k : Runs P G0 srtL O σ1 ρ1 l fl ρ' σ') : Runs P G0 srtL O σ ρ (ms ++ l) fl ρ' σ' :=
  runs_app hF 400 ms l σ σ1 σ' ρ ρ1 ρ' fl (by rw [exF_eq]; exact h) k
theorem runs_end {P : (Nat → FnT) → Prop} {rs : Orc} {σ σ1 : Store} {ρ ρ1 : Rho} {ms : List MS} {fl : Fl} (hF : P (Fx rs 16)) (h : run rs σ ρ ms = some (fl, ρ1, σ1)) : Runs P G0 srtL O σ ρ ms fl ρ1 σ1 :=
  runs_of hF 400 ms σ σ1 ρ ρ1 fl (by rw [exF_eq]; exact h)

theorem words_refl (ρ : Rho) : Words O ρ ρ := ⟨rfl, fun i w e => ⟨w, e, fun _ _ _ r => r⟩⟩
theorem words_cons {a b : Option W} {ρ ρ1 : Rho} (h : ∀ w', b = some w' → ∃ w, a = some w ∧ ∀ (Z : Zd) α v, RW O Z α v w → RW O Z α v w') (k : Words O ρ ρ1) : Words O (a :: ρ) (b :: ρ1) := by
  refine ⟨by simp [k.1], fun i w' e => ?_⟩
  cases i with
  | zero =>
    simp only [List.getElem?_cons_zero, Option.some.injEq] at e ⊢
    exact h w' e
  | succ i =>
    simp only [List.getElem?_cons_succ] at e ⊢
    exact k.2 i w' e
theorem word_same {a : Option W} : ∀ w', a = some w' → ∃ w, a = some w ∧ ∀ (Z : Zd) α v, RW O Z α v w → RW O Z α v w' := fun w e => ⟨w, e, fun _ _ _ r => r⟩
theorem word_gone {a : Option W} : ∀ w', none = some w' → ∃ w, a = some w ∧ ∀ (Z : Zd) α v, RW O Z α v w → RW O Z α v w' := fun w e => nomatch e
theorem word_opq {k : Nat} {i : Int} (h : O k = .int i) : ∀ w', iw i = some w' → ∃ w, oq k = some w ∧ ∀ (Z : Zd) α v, RW O Z α v w → RW O Z α v w' := fun w e => by
  cases e
  refine ⟨_, rfl, fun Z α v r => ?_⟩
  cases r with | d r => cases r with | opq _ r => rw [h] at r; exact .d r
theorem word_int {k : Nat} {i : Int} (h : O k = .int i) : ∀ w', oq k = some w' → ∃ w, iw i = some w ∧ ∀ (Z : Zd) α v, RW O Z α v w → RW O Z α v w' := fun w e => by
  cases e
  refine ⟨_, rfl, fun Z α v r => ?_⟩
  cases r with | d r => exact .d (.opq _ (by rw [h]; exact r))

theorem words_mask {bs : List Bool} {ρ : Rho} (h : bs.length = ρ.length) : Words O ρ (mask bs ρ) :=
  ⟨(mask_len h).symm, fun i w e => ⟨w, mask_at e, fun _ _ _ r => r⟩⟩

/-- the ints are taken over one by one -/
theorem int_loop {F : Nat → FnT} {G : Nat → Option D} {srt : List D → Option (List D)} {n : Nat} {σ : Store} {ρ : Rho} (hl : ρ.length = 16) : ∀ l : List Int, evC (evE F G srt (n + 2)) ρ (.blt .int [.var 16]) false none none σ (l.map .int) = some (l.map .int, σ)
  | [] => rfl
  | a :: l => by
    have e : (ρ ++ [some (W.d (.int a))])[16]? = some (some (.d (.int a))) := by rw [List.getElem?_append_right (by omega), hl]; rfl
    have ih := int_loop (F := F) (G := G) (srt := srt) (n := n) (σ := σ) hl l
    rw [List.map_cons, evC]
    simp only [binds1, Bool.false_eq_true, if_false, Option.bind_some, e_blt, l_cons, l_nil, e_var, e, Option.map_some, show evBlt srt σ .int [.d (.int a)] = some (.int a) from rfl, wD, stays, if_true, ih]

theorem law_first {F : Nat → FnT} {G : Nat → Option D} {srt : List D → Option (List D)} {ns : List Int} (h63 : ns.length ≤ 63) : ∃ m rest, ms_law = m :: rest ∧ rest = seg 1 2 ++ (seg 2 4 ++ (seg 4 10 ++ seg 10 15)) ∧
    ex1 (evE F G srt 20) (exS F G srt 20) [] (lw ns :: no 15) m = some (.next, lw ns :: some (.m 0) :: no 14, [[.lst ((ns.take 8).map .int), .int 0]]) := by
  refine ⟨_, _, rfl, rfl, ?_⟩
  have hl : (lw ns :: no 15).length = 16 := rfl
  have il := int_loop (F := F) (G := G) (srt := srt) (n := 16) (σ := []) hl (ns.take 8)
  have hb : ns.length ≤ big := by show ns.length ≤ 1000000; omega
  have h8 : small 8 = true := rfl
  have v0 : (lw ns :: no 15)[0]? = some (some (.d (.lst (ns.map .int)))) := rfl
  have up : evI (evE F G srt 18) [] (lw ns :: no 15) .val [.upto (.var 0) (.int 8)] = some ((ns.take 8).map .int, none, []) := by
    have hb2 : ((ns.map D.int).take 8).length ≤ big := by simp only [List.length_take, List.length_map]; exact Nat.le_trans (Nat.min_le_right _ _) hb
    unfold evI
    simp only [l_cons, l_nil, e_upto, e_var, v0, e_int, Option.bind_some, Option.map_some, wList, h8, List.length_map, hb, decide_true, Bool.and_true, Int.reduceLE, if_true, Int.reduceToNat, hb2, List.map_take]
  simp only [x_set, e_mlst, l_cons, l_nil, e_comp, up, il, e_int, Option.bind_some, Option.map_some, wDs, wD, List.length_cons, List.length_nil, big]
  rfl

theorem told_nil {cells : List Int} : Told cells [] := fun spot mn v h => by simp at h

end
end Mine


namespace Mine

/-! the stretch that draws, by pure words -/
noncomputable def bodyB : List MS := [.set 8 (.bin .mul (.idx (.tup [(.int 1), (.var 2), (.bin .add (.var 3) (.int 1))]) (.call 14 [(.var 1), (.int 3)])) (.var 7)),
      .set 5 (.bin .add (.var 5) (.ite (.cmp .le (.var 8) (.var 3)) (.lst [(.var 8)]) (.lst []))),
      .loop (.cmp .le (.var 8) (.var 3)) [.app 6 (.var 8),
        .set 8 (.bin .mul (.var 8) (.var 2))]]
noncomputable def pows (d n : Int) : Nat → Int → Option (List Int × Int)
  | 0, _ => none
  | f + 1, b => if b ≤ n then (if small b then (match pows d n f (b * d) with
    | some (ps, c) => some (b :: ps, c)
    | none => none) else none) else some ([], b)
noncomputable def begI (d n c : Int) : Int := if c = 0 then 1 else if c = 1 then d else n + 1
noncomputable def buildI (d n : Int) : List Int → List Int → List Int → List Int → Option (List Int × List Int)
  | [], _, f, e => some (f, e)
  | x :: xs, c :: cs, f, e => if 0 ≤ c ∧ c ≤ 2 then (match pows d n 8 (begI d n c * x) with
    | some (ps, _) => buildI d n xs cs (f ++ (if begI d n c * x ≤ n then [begI d n c * x] else [])) (e ++ ps)
    | none => none) else none
  | _ :: _, [], _, _ => none
noncomputable def rhoE (d n : Int) (f : List Int) (x b : Option W) : Rho := [none, some (.m 0), iw d, iw n, oq 2, lw f, some (.m 1), x, b, none, none, none, none, none, none, none]
noncomputable def sigE (sp : Nat) (e : List Int) : Store := [[.opq 0, .int (.ofNat sp)], e.map .int]
noncomputable def keepD (d : Int) : Int → Nat → List Int
  | _, 0 => []
  | a, m + 1 => if a.fmod d = 0 then keepD d (a + 1) m else a :: keepD d (a + 1) m

section
variable {F : Nat → FnT} {G : Nat → Option D} {srt : List D → Option (List D)}

theorem e_lst {σ : Store} {ρ : Rho} {n : Nat} {es : List ME} : evE F G srt (n + 1) σ ρ (.lst es) = (evL (evE F G srt n) ρ σ es).bind fun p => (wDs p.1).bind fun ds => if ds.length ≤ big then some (.d (.lst ds), p.2) else none := rfl
theorem loopB {d n : Int} {fs : List Int} {x : Option W} {sp k : Nat} (hd : small d = true) : ∀ (f : Nat) (b b' : Int) (e ps : List Int), pows d n f b = some (ps, b') → e.length + f ≤ 1000 →
    exS F G srt (k + f + 12) (sigE sp e) (rhoE d n fs x (iw b)) [.loop (.cmp .le (.var 8) (.var 3)) [.app 6 (.var 8), .set 8 (.bin .mul (.var 8) (.var 2))]] = some (.next, rhoE d n fs x (iw b'), sigE sp (e ++ ps))
  | 0, b, b', e, ps, h, _ => by simp [pows] at h
  | f + 1, b, b', e, ps, h, hl => by
    rw [pows] at h
    have e8 : (rhoE d n fs x (iw b))[8]? = some (some (.d (.int b))) := rfl
    have e3 : (rhoE d n fs x (iw b))[3]? = some (some (.d (.int n))) := rfl
    have e2 : (rhoE d n fs x (iw b))[2]? = some (some (.d (.int d))) := rfl
    have e6 : (rhoE d n fs x (iw b))[6]? = some (some (.m 1)) := rfl
    have hlt : 8 < (rhoE d n fs x (iw b)).length := by show 8 < 16; omega
    have hs1 : (sigE sp e)[1]? = some (e.map .int) := rfl
    have hlen : (e.map D.int).length ≤ big := by rw [List.length_map]; show e.length ≤ 1000000; omega
    split at h
    · rename_i hb
      split at h
      · rename_i hsm
        split at h
        · rename_i qs c hq
          cases h
          have ih := loopB (fs := fs) (x := x) (sp := sp) (k := k) hd f (b * d) b' (e ++ [b]) qs hq (by simp; omega)
          have t1 : (sigE sp e).set 1 (e.map D.int ++ [.int b]) = sigE sp (e ++ [b]) := by simp [sigE]
          have t2 : ∀ w, (rhoE d n fs x (iw b)).set 8 (some w) = rhoE d n fs x (some w) := fun w => rfl
          show exS F G srt (k + f + 12 + 1) _ _ _ = _
          rw [s_cons]
          have body : exS F G srt (k + f + 12) (sigE sp e) (rhoE d n fs x (iw b)) [.app 6 (.var 8), .set 8 (.bin .mul (.var 8) (.var 2))] = some (.next, rhoE d n fs x (iw (b * d)), sigE sp (e ++ [b])) := by
            show exS F G srt (k + f + 8 + 1 + 1 + 1 + 1) _ _ _ = _
            simp only [s_cons, s_nil, x_app, x_set, e_var, e_bin, e8, e2, e6, Option.bind_some, wD, hs1, hlen, if_true, t1, dBin, hsm, Option.map_some, hlt, t2]
            rfl
          have cnd : evE F G srt (k + f + 12) (sigE sp e) (rhoE d n fs x (iw b)) (.cmp .le (.var 8) (.var 3)) = some (.d (.bool true), sigE sp e) := by
            show evE F G srt (k + f + 10 + 1 + 1) _ _ _ = _
            simp only [e_cmp, e_var, e8, e3, Option.bind_some, wD, dCmp, hb, decide_true, Option.map_some]
          have lp : ex1 (evE F G srt (k + f + 12)) (exS F G srt (k + f + 12)) (sigE sp e) (rhoE d n fs x (iw b)) (.loop (.cmp .le (.var 8) (.var 3)) [.app 6 (.var 8), .set 8 (.bin .mul (.var 8) (.var 2))]) = some (.next, rhoE d n fs x (iw b'), sigE sp (e ++ [b] ++ qs)) := by
            simp only [ex1, cnd, Option.bind_some, asTru, if_true, body, ih]
          rw [lp, List.append_assoc]
          show exS F G srt (k + f + 11 + 1) _ _ [] = _
          rw [s_nil]
          simp
        · cases h
      · cases h
    · rename_i hb
      cases h
      show exS F G srt (k + f + 12 + 1) _ _ _ = _
      have cnd : evE F G srt (k + f + 12) (sigE sp e) (rhoE d n fs x (iw b)) (.cmp .le (.var 8) (.var 3)) = some (.d (.bool false), sigE sp e) := by
        show evE F G srt (k + f + 10 + 1 + 1) _ _ _ = _
        simp only [e_cmp, e_var, e8, e3, Option.bind_some, wD, dCmp, hb, decide_false, Option.map_some]
      rw [s_cons]
      simp only [ex1, cnd, Option.bind_some, asTru, Bool.false_eq_true, if_false]
      show exS F G srt (k + f + 11 + 1) _ _ [] = _
      rw [s_nil, List.append_nil]

theorem pows_len {d n : Int} : ∀ (f : Nat) (b b' : Int) (ps : List Int), pows d n f b = some (ps, b') → ps.length ≤ f
  | 0, b, b', ps, h => by simp [pows] at h
  | f + 1, b, b', ps, h => by
    rw [pows] at h
    split at h
    · split at h
      · split at h
        · rename_i qs c hq
          cases h
          have := pows_len f (b * d) b' qs hq
          simp; omega
        · cases h
      · cases h
    · cases h; simp

theorem turnB {rs : Orc} {k : Nat} {d n x c : Int} {fs e ps : List Int} {b' : Int} {w8 : Option W} {sp : Nat} (hd : 0 ≤ d ∧ d < 100) (hn : 0 ≤ n ∧ n < 100) (hc : 0 ≤ c ∧ c ≤ 2) (hr : rs[sp]? = some (some (3, c))) (he : e.length ≤ 900) (hf : fs.length ≤ 900) (hp : pows d n 8 (begI d n c * x) = some (ps, b')) :
    exS (Fx rs 16) G srt (k + 40) (sigE sp e) (rhoE d n fs (iw x) w8) bodyB = some (.next, rhoE d n (fs ++ (if begI d n c * x ≤ n then [begI d n c * x] else [])) (iw x) (iw b'), sigE (sp + 1) (e ++ ps)) := by
  have sd : small d = true := decide_eq_true (by omega)
  have sb : small (begI d n c) = true := by
    unfold begI
    split
    · rfl
    · split
      · exact sd
      · exact decide_eq_true (by omega)
  have dr : ∀ σ, σ = sigE sp e → Fx rs 16 14 [.m 0, .d (.int 3)] σ = some (.int c, sigE (sp + 1) e) := fun σ q => by
    subst q
    show pDraw rs [.m 0, .d (.int 3)] (sigE sp e) = _
    have hj : (sigE sp e)[0]? = some [.opq 0, .int (.ofNat sp)] := rfl
    simp only [pDraw, hj, hr, if_true]
    rfl
  have dr' := dr _ rfl
  have hix : dIdx [.int 1, .int d, .int (n + 1)] c = some (.int (begI d n c)) := by
    have : c = 0 ∨ c = 1 ∨ c = 2 := by omega
    rcases this with rfl | rfl | rfl <;> rfl
  have e1 : (rhoE d n fs (iw x) w8)[1]? = some (some (.m 0)) := rfl
  have e2 : (rhoE d n fs (iw x) w8)[2]? = some (some (.d (.int d))) := rfl
  have e3 : (rhoE d n fs (iw x) w8)[3]? = some (some (.d (.int n))) := rfl
  have e7 : (rhoE d n fs (iw x) w8)[7]? = some (some (.d (.int x))) := rfl
  have l8 : 8 < (rhoE d n fs (iw x) w8).length := by show 8 < 16; omega
  have b1 : ex1 (evE (Fx rs 16) G srt (k + 39)) (exS (Fx rs 16) G srt (k + 39)) (sigE sp e) (rhoE d n fs (iw x) w8) (.set 8 (.bin .mul (.idx (.tup [(.int 1), (.var 2), (.bin .add (.var 3) (.int 1))]) (.call 14 [(.var 1), (.int 3)])) (.var 7))) = some (.next, rhoE d n fs (iw x) (iw (begI d n c * x)), sigE (sp + 1) e) := by
    simp only [x_set, e_bin, e_idx, e_tup, e_call, l_cons, l_nil, e_int, e_var, e1, e2, e3, e7, Option.bind_some, Option.map_some, wD, wDs, dBin, List.length_cons, List.length_nil, show (0 + 1 + 1 + 1 ≤ big) = True from eq_true (by decide), if_true, dr', hix, sb, l8]
    rfl
  have f5 : (rhoE d n fs (iw x) (iw (begI d n c * x)))[5]? = some (some (.d (.lst (fs.map .int)))) := rfl
  have f8 : (rhoE d n fs (iw x) (iw (begI d n c * x)))[8]? = some (some (.d (.int (begI d n c * x)))) := rfl
  have f3 : (rhoE d n fs (iw x) (iw (begI d n c * x)))[3]? = some (some (.d (.int n))) := rfl
  have l5 : 5 < (rhoE d n fs (iw x) (iw (begI d n c * x))).length := by show 5 < 16; omega
  have b2 : ex1 (evE (Fx rs 16) G srt (k + 38)) (exS (Fx rs 16) G srt (k + 38)) (sigE (sp + 1) e) (rhoE d n fs (iw x) (iw (begI d n c * x))) (.set 5 (.bin .add (.var 5) (.ite (.cmp .le (.var 8) (.var 3)) (.lst [(.var 8)]) (.lst [])))) = some (.next, rhoE d n (fs ++ (if begI d n c * x ≤ n then [begI d n c * x] else [])) (iw x) (iw (begI d n c * x)), sigE (sp + 1) e) := by
    have lst1 : evE (Fx rs 16) G srt (k + 36) (sigE (sp + 1) e) (rhoE d n fs (iw x) (iw (begI d n c * x))) (.lst [.var 8]) = some (.d (.lst [.int (begI d n c * x)]), sigE (sp + 1) e) := by
      simp only [e_lst, l_cons, l_nil, e_var, f8, Option.bind_some, Option.map_some, wDs, wD]
      rfl
    have lst0 : evE (Fx rs 16) G srt (k + 36) (sigE (sp + 1) e) (rhoE d n fs (iw x) (iw (begI d n c * x))) (.lst []) = some (.d (.lst []), sigE (sp + 1) e) := rfl
    by_cases hb : begI d n c * x ≤ n
    · have hbig : (fs.map D.int).length + [D.int (begI d n c * x)].length ≤ big := by rw [List.length_map]; show fs.length + 1 ≤ 1000000; omega
      simp only [x_set, e_bin, e_ite, e_cmp, e_var, f5, f8, f3, Option.bind_some, Option.map_some, wD, dCmp, asTru, hb, decide_true, if_true, lst1, dBin, hbig, l5]
      rw [show fs.map D.int ++ [D.int (begI d n c * x)] = (fs ++ [begI d n c * x]).map D.int by simp]
      rfl
    · have hbig : (fs.map D.int).length + ([] : List D).length ≤ big := by rw [List.length_map]; show fs.length + 0 ≤ 1000000; omega
      simp only [x_set, e_bin, e_ite, e_cmp, e_var, f5, f8, f3, Option.bind_some, Option.map_some, wD, dCmp, asTru, hb, decide_false, Bool.false_eq_true, if_false, lst0, dBin, hbig, l5, if_true]
      rw [show fs.map D.int ++ ([] : List D) = (fs ++ []).map D.int by simp]
      rfl
  have hpl := pows_len _ _ _ _ hp
  have b3 := loopB (F := Fx rs 16) (G := G) (srt := srt) (fs := fs ++ (if begI d n c * x ≤ n then [begI d n c * x] else [])) (x := iw x) (sp := sp + 1) (k := k + 18) sd 8 (begI d n c * x) b' e ps hp (by omega)
  unfold bodyB
  rw [s_cons, b1]
  simp only [Option.bind_some]
  rw [s_cons, b2]
  simp only [Option.bind_some]
  exact b3

theorem eachB {rs : Orc} {k : Nat} {d n : Int} (hd : 0 ≤ d ∧ d < 100) (hn : 0 ≤ n ∧ n < 100) : ∀ (xs cs fs e f' e' : List Int) (sp : Nat) (w7 w8 : Option W), buildI d n xs cs fs e = some (f', e') → xs.length = cs.length → (∀ (i : Nat) c, cs[i]? = some c → rs[sp + i]? = some (some (3, c))) →
    e.length + 8 * xs.length ≤ 800 → fs.length + xs.length ≤ 800 →
    ∃ v7 v8, exEach (exS (Fx rs 16) G srt (k + 40)) [7] bodyB none (sigE sp e) (rhoE d n fs w7 w8) (xs.map .int) = some (.next, rhoE d n f' v7 v8, sigE (sp + xs.length) e')
  | [], cs, fs, e, f', e', sp, w7, w8, h, _, _, _, _ => by
    simp only [buildI] at h
    cases h
    exact ⟨w7, w8, rfl⟩
  | x :: xs, [], fs, e, f', e', sp, w7, w8, h, hl, _, _, _ => by simp at hl
  | x :: xs, c :: cs, fs, e, f', e', sp, w7, w8, h, hl, hr, he, hf => by
    simp only [buildI] at h
    split at h
    · rename_i hc
      split at h
      · rename_i ps b' hp
        have hpl := pows_len _ _ _ _ hp
        have t := turnB (k := k) (G := G) (srt := srt) (w8 := w8) (sp := sp) (e := e) (fs := fs) hd hn hc (by simpa using hr 0 c rfl) (by simp at he; omega) (by simp at hf; omega) hp
        obtain ⟨v7, v8, ih⟩ := eachB (k := k) hd hn xs cs _ _ f' e' (sp + 1) (iw x) (iw b') h (by simpa using hl) (fun i c' q => by have := hr (i + 1) c' q; rw [show sp + 1 + i = sp + (i + 1) by omega]; exact this) (by simp at he ⊢; omega) (by
          simp at hf ⊢
          split <;> simp <;> omega)
        refine ⟨v7, v8, ?_⟩
        rw [List.map_cons, exEach]
        have bt : bindT (rhoE d n fs w7 w8) [7] (.int x) = some (rhoE d n fs (iw x) w8) := rfl
        simp only [bt, Option.bind_some, t, stays, if_true]
        rw [ih]
        simp only [List.length_cons]
        rw [show sp + 1 + xs.length = sp + (xs.length + 1) by omega]
      · cases h
    · cases h

/-- the numbers that d does not divide -/
theorem keepB {d : Int} {ρ : Rho} {σ : Store} {n : Nat} (hl : ρ.length = 16) (h2 : ρ[2]? = some (some (.d (.int d)))) (hd : small d = true) (h0 : d ≠ 0) : ∀ (m : Nat) (a : Int), evC (evE F G srt (n + 8)) ρ (.var 16) false none (some (.cmp .ne (.bin .mod (.var 16) (.var 2)) (.int 0))) σ (steps a 1 m) = some ((keepD d a m).map .int, σ)
  | 0, a => rfl
  | m + 1, a => by
    have e16 : (ρ ++ [some (W.d (.int a))])[16]? = some (some (.d (.int a))) := by rw [List.getElem?_append_right (by omega), hl]; rfl
    have e2 : (ρ ++ [some (W.d (.int a))])[2]? = some (some (.d (.int d))) := by rw [List.getElem?_append_left (by omega), h2]
    have ih := keepB (σ := σ) (n := n) hl h2 hd h0 m (a + 1)
    have dv : dBin .mod (.int a) (.int d) = some (.int (a.fmod d)) := by simp [dBin, hd, h0]
    rw [steps, evC]
    simp only [binds1, Bool.false_eq_true, if_false, Option.bind_some, e_cmp, e_bin, e_var, e_int, e16, e2, wD, dv, Option.map_some, dCmp, dPlain, Bool.and_self, if_true, asTru, stays, ih]
    by_cases hz : a.fmod d = 0
    · simp [keepD, hz, deq]
    · simp [keepD, hz, deq]
end

theorem keepD_len {d : Int} : ∀ (m : Nat) (a : Int), (keepD d a m).length ≤ m
  | 0, _ => Nat.le_refl _
  | m + 1, a => by
    have := keepD_len (d := d) m (a + 1)
    unfold keepD
    split
    · omega
    · simp; omega
noncomputable def buildB (d n : Int) (lets : List Int) : Option (List Int × List Int) := buildI d n (keepD d 1 n.toNat) lets [] []

theorem segB {d n : Int} {lets f e : List Int} (hd : 0 < d ∧ d < 100) (hn : 0 ≤ n ∧ n < 90) (h : buildB d n lets = some (f, e)) (hlen : (keepD d 1 n.toNat).length = lets.length) :
    ∃ v7 v8, run (orc lets) [[.opq 0, .int (.ofNat 3)]] (rhoB d n) (seg 2 4) = some (.next, rhoE d n f v7 v8, sigE (3 + lets.length) e) := by
  have kl := keepD_len (d := d) n.toNat 1
  have hr : ∀ (i : Nat) c, lets[i]? = some c → (orc lets)[3 + i]? = some (some (3, c)) := fun i c q => by
    show (([none, none, none] : Orc) ++ lets.map fun r => some (3, r))[3 + i]? = _
    rw [List.getElem?_append_right (by simp)]
    simp [q]
  obtain ⟨v7, v8, g⟩ := eachB (G := G0) (srt := srtL) (k := 358) (rs := orc lets) (d := d) (n := n) ⟨by omega, hd.2⟩ ⟨hn.1, by omega⟩ (keepD d 1 n.toNat) lets [] [] f e 3 none none h hlen hr (by simp; omega) (by simp; omega)
  refine ⟨v7, v8, ?_⟩
  unfold run
  rw [← exF_eq]
  have sd : small d = true := decide_eq_true (by omega)
  have sn : small (n + 1) = true := decide_eq_true (by omega)
  have k1 := keepB (F := Fx (orc lets) 16) (G := G0) (srt := srtL) (ρ := rhoE d n [] none none) (σ := sigE 3 []) (n := 389) rfl rfl sd (by omega) n.toNat 1
  have rg : dRange [.int 1, .int (n + 1)] = some (steps 1 1 n.toNat) := by
    have e0 : (n + 1 - 1).toNat = n.toNat := by congr 1; omega
    simp only [dRange, e0]
    rw [if_pos (by rw [Bool.and_eq_true, Bool.and_eq_true]; exact ⟨⟨small_one, sn⟩, decide_eq_true (show n.toNat ≤ 1000000 by omega)⟩)]
  have sg : seg 2 4 = [.sets true [5, 6] [(.lst []), (.mlst [])], .each [7] .val [(.comp (.var 16) false .range [(.int 1), (.bin .add (.var 3) (.int 1))] (some (.cmp .ne (.bin .mod (.var 16) (.var 2)) (.int 0))))] bodyB] := rfl
  have st1 : ex1 (evE (Fx (orc lets) 16) G0 srtL 399) (exS (Fx (orc lets) 16) G0 srtL 399) [[.opq 0, .int (.ofNat 3)]] (rhoB d n) (.sets true [5, 6] [(.lst []), (.mlst [])]) = some (.next, rhoE d n [] none none, sigE 3 []) := rfl
  have e3 : (rhoE d n [] none none)[3]? = some (some (.d (.int n))) := rfl
  have cp : evE (Fx (orc lets) 16) G0 srtL 398 (sigE 3 []) (rhoE d n [] none none) (.comp (.var 16) false .range [(.int 1), (.bin .add (.var 3) (.int 1))] (some (.cmp .ne (.bin .mod (.var 16) (.var 2)) (.int 0)))) = some (.d (.lst ((keepD d 1 n.toNat).map .int)), sigE 3 []) := by
    show evE (Fx (orc lets) 16) G0 srtL (397 + 1) _ _ _ = _
    rw [e_comp, i_range]
    have l1 : evL (evE (Fx (orc lets) 16) G0 srtL 397) (rhoE d n [] none none) (sigE 3 []) [(.int 1), (.bin .add (.var 3) (.int 1))] = some ([.d (.int 1), .d (.int (n + 1))], sigE 3 []) := by
      simp only [l_cons, l_nil, e_int, e_bin, e_var, e3, Option.bind_some, Option.map_some, wD, dBin]
    rw [l1]
    simp only [Option.bind_some, wDs, wD, Option.map_some, rg]
    rw [show (397 : Nat) = 389 + 8 from rfl, k1]
    rfl
  have it : evI (evE (Fx (orc lets) 16) G0 srtL 398) (sigE 3 []) (rhoE d n [] none none) .val [(.comp (.var 16) false .range [(.int 1), (.bin .add (.var 3) (.int 1))] (some (.cmp .ne (.bin .mod (.var 16) (.var 2)) (.int 0))))] = some ((keepD d 1 n.toNat).map .int, none, sigE 3 []) := by
    unfold evI
    rw [l_cons, cp]
    simp only [Option.bind_some, l_nil, Option.map_some]
    rw [if_pos (by rw [List.length_map]; show _ ≤ 1000000; omega)]
  have st2 : ex1 (evE (Fx (orc lets) 16) G0 srtL 398) (exS (Fx (orc lets) 16) G0 srtL 398) (sigE 3 []) (rhoE d n [] none none) (.each [7] .val [(.comp (.var 16) false .range [(.int 1), (.bin .add (.var 3) (.int 1))] (some (.cmp .ne (.bin .mod (.var 16) (.var 2)) (.int 0))))] bodyB) = some (.next, rhoE d n f v7 v8, sigE (3 + lets.length) e) := by
    rw [x_each, it]
    simp only [Option.bind_some]
    rw [if_pos (by rfl), ← hlen]
    exact g
  rw [sg, s_cons, st1]
  simp only [Option.bind_some]
  rw [s_cons, st2]
  simp only [Option.bind_some]
  exact s_nil
end Mine


namespace Mine
noncomputable def eqI : List Int → List Int → Bool
  | [], [] => true
  | a :: x, b :: y => decide (a = b) && eqI x y
  | _, _ => false
theorem eqI_eq : ∀ {x y : List Int}, eqI x y = true → x = y
  | [], [], _ => rfl
  | a :: x, b :: y, h => by rw [eqI, Bool.and_eq_true] at h; rw [of_decide_eq_true h.1, eqI_eq h.2]
  | [], _ :: _, h => by cases h
  | _ :: _, [], h => by cases h
noncomputable def chkB (d n : Int) (cs : List Cs) (lets : List Int) : Bool := match buildB d n lets with
  | some (f, e) => decide ((keepD d 1 n.toNat).length = lets.length) && cs.any fun c => decide (c.d = d) && decide (c.n = n) && decide (c.spot = 3 + lets.length) && eqI c.first f && eqI c.every e
  | _ => false
/-- what is left to the kernel -/
structure Facts : Prop where
  a : ∀ a ∈ ([0, 1] : List Int), ∀ b ∈ ([0, 1, 2, 3] : List Int), ∀ c ∈ ([0, 1] : List Int), chkA a b c = true
  b : ∀ d ∈ ([2, 3] : List Int), ∀ n ∈ ([4, 5, 6, 7] : List Int), ∃ (m : Nat) (cs : List Cs), m ≤ 5 ∧ (∀ l ∈ words m, chkB d n cs l = true) ∧ ∀ c ∈ cs, chkC c = true ∧ c.n ∈ ([4, 5, 6, 7] : List Int)
  d : ∀ n ∈ ([4, 5, 6, 7] : List Int), ∀ k ∈ ([1, 2] : List Int), chkD n k = true

theorem chkA_inv {a b c : Int} (h : chkA a b c = true) : run [some (2, a), some (4, b), some (2, c)] [[.opq 0, .int (.ofNat 0)]] rhoA (seg 1 2) = some (.next, rhoA' (2 + a) (4 + b) (1 + c), [[.opq 0, .int (.ofNat 3)]]) := by
  unfold chkA at h
  split at h
  · rename_i e
    rw [e, deqR_eq (and_l h), deqS_eq (and_r h)]
  · cases h
theorem chkB_inv {d n : Int} {cs : List Cs} {lets : List Int} (h : chkB d n cs lets = true) : ∃ f e c, buildB d n lets = some (f, e) ∧ (keepD d 1 n.toNat).length = lets.length ∧ c ∈ cs ∧ c.d = d ∧ c.n = n ∧ c.spot = 3 + lets.length ∧ c.first = f ∧ c.every = e := by
  unfold chkB at h
  split at h
  · rename_i f e eB
    obtain ⟨c, hc, h2⟩ := List.any_eq_true.mp (and_r h)
    exact ⟨f, e, c, eB, of_decide_eq_true (and_l h), hc, of_decide_eq_true (and_l (and_l (and_l (and_l h2)))), of_decide_eq_true (and_r (and_l (and_l (and_l h2)))), of_decide_eq_true (and_r (and_l (and_l h2))), eqI_eq (and_r (and_l h2)), eqI_eq (and_r h2)⟩
  · cases h
theorem chkC_inv {c : Cs} (h : chkC c = true) : ∃ ρ σ, run [] (sigC c) (rhoC c) (seg 4 10) = some (.next, ρ, σ) ∧ ρ.length = 16 ∧ mask fC ρ = rhoD c.n := by
  unfold chkC at h
  split at h
  · exact ⟨_, _, ‹_›, of_decide_eq_true (and_l h), deqR_eq (and_r h)⟩
  · cases h
theorem chkD_inv {n k : Int} (h : chkD n k = true) : ∃ ρ σ, run [] [] (rhoD' n k) (seg 10 15) = some (.ret (.d (.bool true)), ρ, σ) := by
  unfold chkD at h
  split at h
  · exact ⟨_, _, ‹_›⟩
  · cases h

theorem law_run (X : Facts) {ns : List Int} (h63 : ns.length ≤ 63) : FnRunP (LawP ns) G0 srtL (lawO ns) 1 16 ms_law (pLaw ns) := by
  intro xs σ r σ' h
  unfold pLaw at h
  split at h
  · rename_i l
    split at h
    · rename_i hd
      obtain rfl := deqs_eq hd
      cases h
      refine ⟨rfl, .ret (.d (.bool true)), ?_⟩
      have hL : LawP ns (Fx [] 16) := ⟨[], told_nil, rfl⟩
      obtain ⟨m1, rest, e1, e2, e3⟩ := law_first (F := Fx [] 16) (G := G0) (srt := srtL) h63
      -- the draws
      generalize hcells : ns.take 8 = cells at *
      have R := dv_range cells
      obtain ⟨r0l, r0h⟩ := R 0 2 (by decide)
      obtain ⟨r1l, r1h⟩ := R 1 4 (by decide)
      obtain ⟨r2l, r2h⟩ := R 2 2 (by decide)
      have m0 : drawVal cells 0 2 ∈ ([0, 1] : List Int) := by simp; omega
      have m1' : drawVal cells 1 4 ∈ ([0, 1, 2, 3] : List Int) := by simp; omega
      have m2 : drawVal cells 2 2 ∈ ([0, 1] : List Int) := by simp; omega
      have md : 2 + drawVal cells 0 2 ∈ ([2, 3] : List Int) := by simp; omega
      have mn : 4 + drawVal cells 1 4 ∈ ([4, 5, 6, 7] : List Int) := by simp; omega
      have mk : 1 + drawVal cells 2 2 ∈ ([1, 2] : List Int) := by simp; omega
      have tA : Told cells [some (2, drawVal cells 0 2), some (4, drawVal cells 1 4), some (2, drawVal cells 2 2)] := by
        intro spot mn v h
        match spot, h with
        | 0, h => cases h; exact ⟨by decide, by decide, by decide, rfl⟩
        | 1, h => cases h; exact ⟨by decide, by decide, by decide, rfl⟩
        | 2, h => cases h; exact ⟨by decide, by decide, by decide, rfl⟩
        | n + 3, h => simp at h
      obtain ⟨m, cs, hm5, hB, hC⟩ := X.b _ md _ mn
      let lets : List Int := (List.range m).map fun j => drawVal cells (3 + j) 3
      have hlen : lets.length = m := by simp [lets]
      have hw : lets ∈ words m := by
        rw [← hlen]
        refine mem_words _ fun x hx => ?_
        obtain ⟨i, _, rfl⟩ := List.mem_map.mp hx
        obtain ⟨h1, h2⟩ := R (3 + i) 3 (by decide)
        omega
      have tB : Told cells (orc lets) := by
        intro spot mn v h
        match spot, h with
        | 0, h => cases h
        | 1, h => cases h
        | 2, h => cases h
        | n + 3, h =>
          have h' : (lets.map fun r => (some (3, r) : Option (Int × Int)))[n]? = some (some (mn, v)) := h
          rw [List.getElem?_map] at h'
          obtain ⟨x, hx, h'⟩ := Option.map_eq_some_iff.mp h'
          cases h'
          have hn : n < m := by rw [← hlen]; exact (List.getElem?_eq_some_iff.mp hx).1
          have hx' : lets[n]? = some (drawVal cells (3 + n) 3) := by simp [lets, hn]
          rw [hx'] at hx; cases hx
          exact ⟨by omega, by decide, by decide, by rw [Nat.add_comm]⟩
      have fA := X.a _ m0 _ m1' _ m2
      have fB' := hB lets hw
      have eA := chkA_inv fA
      obtain ⟨f, e, c, eBd, hkl, hc, c1, c2, c3, c4', c5'⟩ := chkB_inv fB'
      obtain ⟨v7, v8, eB⟩ := segB (d := 2 + drawVal cells 0 2) (n := 4 + drawVal cells 1 4) ⟨by omega, by omega⟩ ⟨by omega, by omega⟩ eBd hkl
      obtain ⟨fC', hcn⟩ := hC c hc
      obtain ⟨ρC, σC, eC, lC, eρC⟩ := chkC_inv fC'
      obtain ⟨ρD, σD, eD⟩ := chkD_inv (X.d c.n hcn _ mk)
      have hO0 : lawO ns 0 = .lst (cells.map .int) := by rw [← hcells]; rfl
      have hO2 : lawO ns 2 = .int (1 + drawVal cells 2 2) := by rw [← hcells]; rfl
      have pA : LawP ns (Fx [some (2, drawVal cells 0 2), some (4, drawVal cells 1 4), some (2, drawVal cells 2 2)] 16) := ⟨_, by rw [hcells]; exact tA, rfl⟩
      have pB : LawP ns (Fx (orc lets) 16) := ⟨_, by rw [hcells]; exact tB, rfl⟩
      -- backwards
      have kD : Runs (LawP ns) G0 srtL (lawO ns) [] (rhoD' c.n (1 + drawVal cells 2 2)) (seg 10 15) (.ret (.d (.bool true))) ρD σD := runs_end hL eD
      have kD1 : Runs (LawP ns) G0 srtL (lawO ns) σC (rhoD' c.n (1 + drawVal cells 2 2)) (seg 10 15) (.ret (.d (.bool true))) (ρD.map fun _ => none) (σC ++ σD) := by
        refine .frame (fun i j q => ?_) kD
        have := List.mem_of_getElem? q
        simp [rhoD', no, iw] at this
      have kD2 : Runs (LawP ns) G0 srtL (lawO ns) σC (rhoD c.n) (seg 10 15) (.ret (.d (.bool true))) (ρD.map fun _ => none) (σC ++ σD) := by
        exact .word (words_cons word_same (words_cons word_same (words_cons word_same (words_cons word_same (words_cons (word_opq hO2) (words_refl _)))))) kD1
      have kD3 : Runs (LawP ns) G0 srtL (lawO ns) σC ρC (seg 10 15) (.ret (.d (.bool true))) (ρD.map fun _ => none) (σC ++ σD) := by
        rw [← eρC] at kD2
        exact .word (words_mask (by rw [lC]; rfl)) kD2
      have kC : Runs (LawP ns) G0 srtL (lawO ns) (sigC c) (rhoC c) (seg 4 10 ++ seg 10 15) (.ret (.d (.bool true))) (ρD.map fun _ => none) (σC ++ σD) := runs_seg hL eC kD3
      have kC1 : Runs (LawP ns) G0 srtL (lawO ns) (sigE (3 + lets.length) e) (rhoE (2 + drawVal cells 0 2) (4 + drawVal cells 1 4) f v7 v8) (seg 4 10 ++ seg 10 15) (.ret (.d (.bool true))) (ρD.map fun _ => none) (σC ++ σD) := by
        have es : sigC c = sigE (3 + lets.length) e := by unfold sigC sigE; rw [c3, c5']
        rw [es] at kC
        refine .word ?_ kC
        unfold rhoC rhoE
        rw [c1, c2, c4']
        exact words_cons word_same (words_cons word_gone (words_cons word_same (words_cons word_same (words_cons word_same (words_cons word_same (words_cons word_same (words_cons word_gone (words_cons word_gone (words_refl _)))))))))
      have kB := runs_seg (O := lawO ns) pB eB kC1
      have kB1 : Runs (LawP ns) G0 srtL (lawO ns) [[.opq 0, .int (.ofNat 3)]] (rhoA' (2 + drawVal cells 0 2) (4 + drawVal cells 1 4) (1 + drawVal cells 2 2)) (seg 2 4 ++ (seg 4 10 ++ seg 10 15)) (.ret (.d (.bool true))) (ρD.map fun _ => none) (σC ++ σD) := by
        exact .word (words_cons word_same (words_cons word_same (words_cons word_same (words_cons word_same (words_cons (word_int hO2) (words_refl _)))))) kB
      have kA := runs_seg (O := lawO ns) pA eA kB1
      have kA1 : Runs (LawP ns) G0 srtL (lawO ns) [[.lst (cells.map .int), .int 0]] (lw ns :: some (.m 0) :: no 14) (seg 1 2 ++ (seg 2 4 ++ (seg 4 10 ++ seg 10 15))) (.ret (.d (.bool true))) (ρD.map fun _ => none) (σC ++ σD) := by
        refine .read (σ1 := [[.opq 0, .int (.ofNat 0)]]) ⟨rfl, fun i l l' q1 q2 Z vs r => ?_⟩ (.word (ρ1 := rhoA) (words_cons word_gone (words_refl _)) kA)
        cases i with
        | zero =>
          cases q1; cases q2
          exact to_opq (by rw [hO0]; exact r)
        | succ i => simp at q1
      refine ⟨ρD.map fun _ => none, σC ++ σD, ?_, by simp [fnRes]⟩
      rw [e1, e2]
      exact .next 20 hL e3 kA1
    · cases h
  · cases h
end Mine


namespace Mine
noncomputable def cs24 : List Cs := [⟨2, 4, 5, [1, 3], [1, 2, 4, 3]⟩, ⟨2, 4, 5, [1], [1, 2, 4]⟩, ⟨2, 4, 5, [2, 3], [2, 4, 3]⟩, ⟨2, 4, 5, [2], [2, 4]⟩, ⟨2, 4, 5, [3], [3]⟩, ⟨2, 4, 5, [], []⟩]
noncomputable def cs25 : List Cs := [⟨2, 5, 6, [1, 3, 5], [1, 2, 4, 3, 5]⟩, ⟨2, 5, 6, [1, 3], [1, 2, 4, 3]⟩, ⟨2, 5, 6, [1, 5], [1, 2, 4, 5]⟩, ⟨2, 5, 6, [1], [1, 2, 4]⟩, ⟨2, 5, 6, [2, 3, 5], [2, 4, 3, 5]⟩, ⟨2, 5, 6, [2, 3], [2, 4, 3]⟩, ⟨2, 5, 6, [2, 5], [2, 4, 5]⟩, ⟨2, 5, 6, [2], [2, 4]⟩, ⟨2, 5, 6, [3, 5], [3, 5]⟩, ⟨2, 5, 6, [3], [3]⟩, ⟨2, 5, 6, [5], [5]⟩, ⟨2, 5, 6, [], []⟩]
noncomputable def cs26 : List Cs := [⟨2, 6, 6, [1, 3, 5], [1, 2, 4, 3, 6, 5]⟩, ⟨2, 6, 6, [1, 3], [1, 2, 4, 3, 6]⟩, ⟨2, 6, 6, [1, 6, 5], [1, 2, 4, 6, 5]⟩, ⟨2, 6, 6, [1, 6], [1, 2, 4, 6]⟩, ⟨2, 6, 6, [1, 5], [1, 2, 4, 5]⟩, ⟨2, 6, 6, [1], [1, 2, 4]⟩, ⟨2, 6, 6, [2, 3, 5], [2, 4, 3, 6, 5]⟩, ⟨2, 6, 6, [2, 3], [2, 4, 3, 6]⟩, ⟨2, 6, 6, [2, 6, 5], [2, 4, 6, 5]⟩, ⟨2, 6, 6, [2, 6], [2, 4, 6]⟩, ⟨2, 6, 6, [2, 5], [2, 4, 5]⟩, ⟨2, 6, 6, [2], [2, 4]⟩, ⟨2, 6, 6, [3, 5], [3, 6, 5]⟩, ⟨2, 6, 6, [3], [3, 6]⟩, ⟨2, 6, 6, [6, 5], [6, 5]⟩, ⟨2, 6, 6, [6], [6]⟩, ⟨2, 6, 6, [5], [5]⟩, ⟨2, 6, 6, [], []⟩]
noncomputable def cs27 : List Cs := [⟨2, 7, 7, [1, 3, 5, 7], [1, 2, 4, 3, 6, 5, 7]⟩, ⟨2, 7, 7, [1, 3, 5], [1, 2, 4, 3, 6, 5]⟩, ⟨2, 7, 7, [1, 3, 7], [1, 2, 4, 3, 6, 7]⟩, ⟨2, 7, 7, [1, 3], [1, 2, 4, 3, 6]⟩, ⟨2, 7, 7, [1, 6, 5, 7], [1, 2, 4, 6, 5, 7]⟩, ⟨2, 7, 7, [1, 6, 5], [1, 2, 4, 6, 5]⟩, ⟨2, 7, 7, [1, 6, 7], [1, 2, 4, 6, 7]⟩, ⟨2, 7, 7, [1, 6], [1, 2, 4, 6]⟩, ⟨2, 7, 7, [1, 5, 7], [1, 2, 4, 5, 7]⟩, ⟨2, 7, 7, [1, 5], [1, 2, 4, 5]⟩, ⟨2, 7, 7, [1, 7], [1, 2, 4, 7]⟩, ⟨2, 7, 7, [1], [1, 2, 4]⟩, ⟨2, 7, 7, [2, 3, 5, 7], [2, 4, 3, 6, 5, 7]⟩, ⟨2, 7, 7, [2, 3, 5], [2, 4, 3, 6, 5]⟩, ⟨2, 7, 7, [2, 3, 7], [2, 4, 3, 6, 7]⟩, ⟨2, 7, 7, [2, 3], [2, 4, 3, 6]⟩, ⟨2, 7, 7, [2, 6, 5, 7], [2, 4, 6, 5, 7]⟩, ⟨2, 7, 7, [2, 6, 5], [2, 4, 6, 5]⟩, ⟨2, 7, 7, [2, 6, 7], [2, 4, 6, 7]⟩, ⟨2, 7, 7, [2, 6], [2, 4, 6]⟩, ⟨2, 7, 7, [2, 5, 7], [2, 4, 5, 7]⟩, ⟨2, 7, 7, [2, 5], [2, 4, 5]⟩, ⟨2, 7, 7, [2, 7], [2, 4, 7]⟩, ⟨2, 7, 7, [2], [2, 4]⟩, ⟨2, 7, 7, [3, 5, 7], [3, 6, 5, 7]⟩, ⟨2, 7, 7, [3, 5], [3, 6, 5]⟩, ⟨2, 7, 7, [3, 7], [3, 6, 7]⟩, ⟨2, 7, 7, [3], [3, 6]⟩, ⟨2, 7, 7, [6, 5, 7], [6, 5, 7]⟩, ⟨2, 7, 7, [6, 5], [6, 5]⟩, ⟨2, 7, 7, [6, 7], [6, 7]⟩, ⟨2, 7, 7, [6], [6]⟩, ⟨2, 7, 7, [5, 7], [5, 7]⟩, ⟨2, 7, 7, [5], [5]⟩, ⟨2, 7, 7, [7], [7]⟩, ⟨2, 7, 7, [], []⟩]
noncomputable def cs34 : List Cs := [⟨3, 4, 6, [1, 2, 4], [1, 3, 2, 4]⟩, ⟨3, 4, 6, [1, 2], [1, 3, 2]⟩, ⟨3, 4, 6, [1, 4], [1, 3, 4]⟩, ⟨3, 4, 6, [1], [1, 3]⟩, ⟨3, 4, 6, [3, 2, 4], [3, 2, 4]⟩, ⟨3, 4, 6, [3, 2], [3, 2]⟩, ⟨3, 4, 6, [3, 4], [3, 4]⟩, ⟨3, 4, 6, [3], [3]⟩, ⟨3, 4, 6, [2, 4], [2, 4]⟩, ⟨3, 4, 6, [2], [2]⟩, ⟨3, 4, 6, [4], [4]⟩, ⟨3, 4, 6, [], []⟩]
noncomputable def cs35 : List Cs := [⟨3, 5, 7, [1, 2, 4, 5], [1, 3, 2, 4, 5]⟩, ⟨3, 5, 7, [1, 2, 4], [1, 3, 2, 4]⟩, ⟨3, 5, 7, [1, 2, 5], [1, 3, 2, 5]⟩, ⟨3, 5, 7, [1, 2], [1, 3, 2]⟩, ⟨3, 5, 7, [1, 4, 5], [1, 3, 4, 5]⟩, ⟨3, 5, 7, [1, 4], [1, 3, 4]⟩, ⟨3, 5, 7, [1, 5], [1, 3, 5]⟩, ⟨3, 5, 7, [1], [1, 3]⟩, ⟨3, 5, 7, [3, 2, 4, 5], [3, 2, 4, 5]⟩, ⟨3, 5, 7, [3, 2, 4], [3, 2, 4]⟩, ⟨3, 5, 7, [3, 2, 5], [3, 2, 5]⟩, ⟨3, 5, 7, [3, 2], [3, 2]⟩, ⟨3, 5, 7, [3, 4, 5], [3, 4, 5]⟩, ⟨3, 5, 7, [3, 4], [3, 4]⟩, ⟨3, 5, 7, [3, 5], [3, 5]⟩, ⟨3, 5, 7, [3], [3]⟩, ⟨3, 5, 7, [2, 4, 5], [2, 4, 5]⟩, ⟨3, 5, 7, [2, 4], [2, 4]⟩, ⟨3, 5, 7, [2, 5], [2, 5]⟩, ⟨3, 5, 7, [2], [2]⟩, ⟨3, 5, 7, [4, 5], [4, 5]⟩, ⟨3, 5, 7, [4], [4]⟩, ⟨3, 5, 7, [5], [5]⟩, ⟨3, 5, 7, [], []⟩]
noncomputable def cs36 : List Cs := [⟨3, 6, 7, [1, 2, 4, 5], [1, 3, 2, 6, 4, 5]⟩, ⟨3, 6, 7, [1, 2, 4], [1, 3, 2, 6, 4]⟩, ⟨3, 6, 7, [1, 2, 5], [1, 3, 2, 6, 5]⟩, ⟨3, 6, 7, [1, 2], [1, 3, 2, 6]⟩, ⟨3, 6, 7, [1, 6, 4, 5], [1, 3, 6, 4, 5]⟩, ⟨3, 6, 7, [1, 6, 4], [1, 3, 6, 4]⟩, ⟨3, 6, 7, [1, 6, 5], [1, 3, 6, 5]⟩, ⟨3, 6, 7, [1, 6], [1, 3, 6]⟩, ⟨3, 6, 7, [1, 4, 5], [1, 3, 4, 5]⟩, ⟨3, 6, 7, [1, 4], [1, 3, 4]⟩, ⟨3, 6, 7, [1, 5], [1, 3, 5]⟩, ⟨3, 6, 7, [1], [1, 3]⟩, ⟨3, 6, 7, [3, 2, 4, 5], [3, 2, 6, 4, 5]⟩, ⟨3, 6, 7, [3, 2, 4], [3, 2, 6, 4]⟩, ⟨3, 6, 7, [3, 2, 5], [3, 2, 6, 5]⟩, ⟨3, 6, 7, [3, 2], [3, 2, 6]⟩, ⟨3, 6, 7, [3, 6, 4, 5], [3, 6, 4, 5]⟩, ⟨3, 6, 7, [3, 6, 4], [3, 6, 4]⟩, ⟨3, 6, 7, [3, 6, 5], [3, 6, 5]⟩, ⟨3, 6, 7, [3, 6], [3, 6]⟩, ⟨3, 6, 7, [3, 4, 5], [3, 4, 5]⟩, ⟨3, 6, 7, [3, 4], [3, 4]⟩, ⟨3, 6, 7, [3, 5], [3, 5]⟩, ⟨3, 6, 7, [3], [3]⟩, ⟨3, 6, 7, [2, 4, 5], [2, 6, 4, 5]⟩, ⟨3, 6, 7, [2, 4], [2, 6, 4]⟩, ⟨3, 6, 7, [2, 5], [2, 6, 5]⟩, ⟨3, 6, 7, [2], [2, 6]⟩, ⟨3, 6, 7, [6, 4, 5], [6, 4, 5]⟩, ⟨3, 6, 7, [6, 4], [6, 4]⟩, ⟨3, 6, 7, [6, 5], [6, 5]⟩, ⟨3, 6, 7, [6], [6]⟩, ⟨3, 6, 7, [4, 5], [4, 5]⟩, ⟨3, 6, 7, [4], [4]⟩, ⟨3, 6, 7, [5], [5]⟩, ⟨3, 6, 7, [], []⟩]
noncomputable def cs37 : List Cs := [⟨3, 7, 8, [1, 2, 4, 5, 7], [1, 3, 2, 6, 4, 5, 7]⟩, ⟨3, 7, 8, [1, 2, 4, 5], [1, 3, 2, 6, 4, 5]⟩, ⟨3, 7, 8, [1, 2, 4, 7], [1, 3, 2, 6, 4, 7]⟩, ⟨3, 7, 8, [1, 2, 4], [1, 3, 2, 6, 4]⟩, ⟨3, 7, 8, [1, 2, 5, 7], [1, 3, 2, 6, 5, 7]⟩, ⟨3, 7, 8, [1, 2, 5], [1, 3, 2, 6, 5]⟩, ⟨3, 7, 8, [1, 2, 7], [1, 3, 2, 6, 7]⟩, ⟨3, 7, 8, [1, 2], [1, 3, 2, 6]⟩, ⟨3, 7, 8, [1, 6, 4, 5, 7], [1, 3, 6, 4, 5, 7]⟩, ⟨3, 7, 8, [1, 6, 4, 5], [1, 3, 6, 4, 5]⟩, ⟨3, 7, 8, [1, 6, 4, 7], [1, 3, 6, 4, 7]⟩, ⟨3, 7, 8, [1, 6, 4], [1, 3, 6, 4]⟩, ⟨3, 7, 8, [1, 6, 5, 7], [1, 3, 6, 5, 7]⟩, ⟨3, 7, 8, [1, 6, 5], [1, 3, 6, 5]⟩, ⟨3, 7, 8, [1, 6, 7], [1, 3, 6, 7]⟩, ⟨3, 7, 8, [1, 6], [1, 3, 6]⟩, ⟨3, 7, 8, [1, 4, 5, 7], [1, 3, 4, 5, 7]⟩, ⟨3, 7, 8, [1, 4, 5], [1, 3, 4, 5]⟩, ⟨3, 7, 8, [1, 4, 7], [1, 3, 4, 7]⟩, ⟨3, 7, 8, [1, 4], [1, 3, 4]⟩, ⟨3, 7, 8, [1, 5, 7], [1, 3, 5, 7]⟩, ⟨3, 7, 8, [1, 5], [1, 3, 5]⟩, ⟨3, 7, 8, [1, 7], [1, 3, 7]⟩, ⟨3, 7, 8, [1], [1, 3]⟩, ⟨3, 7, 8, [3, 2, 4, 5, 7], [3, 2, 6, 4, 5, 7]⟩, ⟨3, 7, 8, [3, 2, 4, 5], [3, 2, 6, 4, 5]⟩, ⟨3, 7, 8, [3, 2, 4, 7], [3, 2, 6, 4, 7]⟩, ⟨3, 7, 8, [3, 2, 4], [3, 2, 6, 4]⟩, ⟨3, 7, 8, [3, 2, 5, 7], [3, 2, 6, 5, 7]⟩, ⟨3, 7, 8, [3, 2, 5], [3, 2, 6, 5]⟩, ⟨3, 7, 8, [3, 2, 7], [3, 2, 6, 7]⟩, ⟨3, 7, 8, [3, 2], [3, 2, 6]⟩, ⟨3, 7, 8, [3, 6, 4, 5, 7], [3, 6, 4, 5, 7]⟩, ⟨3, 7, 8, [3, 6, 4, 5], [3, 6, 4, 5]⟩, ⟨3, 7, 8, [3, 6, 4, 7], [3, 6, 4, 7]⟩, ⟨3, 7, 8, [3, 6, 4], [3, 6, 4]⟩, ⟨3, 7, 8, [3, 6, 5, 7], [3, 6, 5, 7]⟩, ⟨3, 7, 8, [3, 6, 5], [3, 6, 5]⟩, ⟨3, 7, 8, [3, 6, 7], [3, 6, 7]⟩, ⟨3, 7, 8, [3, 6], [3, 6]⟩, ⟨3, 7, 8, [3, 4, 5, 7], [3, 4, 5, 7]⟩, ⟨3, 7, 8, [3, 4, 5], [3, 4, 5]⟩, ⟨3, 7, 8, [3, 4, 7], [3, 4, 7]⟩, ⟨3, 7, 8, [3, 4], [3, 4]⟩, ⟨3, 7, 8, [3, 5, 7], [3, 5, 7]⟩, ⟨3, 7, 8, [3, 5], [3, 5]⟩, ⟨3, 7, 8, [3, 7], [3, 7]⟩, ⟨3, 7, 8, [3], [3]⟩, ⟨3, 7, 8, [2, 4, 5, 7], [2, 6, 4, 5, 7]⟩, ⟨3, 7, 8, [2, 4, 5], [2, 6, 4, 5]⟩, ⟨3, 7, 8, [2, 4, 7], [2, 6, 4, 7]⟩, ⟨3, 7, 8, [2, 4], [2, 6, 4]⟩, ⟨3, 7, 8, [2, 5, 7], [2, 6, 5, 7]⟩, ⟨3, 7, 8, [2, 5], [2, 6, 5]⟩, ⟨3, 7, 8, [2, 7], [2, 6, 7]⟩, ⟨3, 7, 8, [2], [2, 6]⟩, ⟨3, 7, 8, [6, 4, 5, 7], [6, 4, 5, 7]⟩, ⟨3, 7, 8, [6, 4, 5], [6, 4, 5]⟩, ⟨3, 7, 8, [6, 4, 7], [6, 4, 7]⟩, ⟨3, 7, 8, [6, 4], [6, 4]⟩, ⟨3, 7, 8, [6, 5, 7], [6, 5, 7]⟩, ⟨3, 7, 8, [6, 5], [6, 5]⟩, ⟨3, 7, 8, [6, 7], [6, 7]⟩, ⟨3, 7, 8, [6], [6]⟩, ⟨3, 7, 8, [4, 5, 7], [4, 5, 7]⟩, ⟨3, 7, 8, [4, 5], [4, 5]⟩, ⟨3, 7, 8, [4, 7], [4, 7]⟩, ⟨3, 7, 8, [4], [4]⟩, ⟨3, 7, 8, [5, 7], [5, 7]⟩, ⟨3, 7, 8, [5], [5]⟩, ⟨3, 7, 8, [7], [7]⟩, ⟨3, 7, 8, [], []⟩]
end Mine


namespace Mine
set_option maxRecDepth 100000
theorem all_chunks {α : Type} {l : List α} {p : α → Bool} (k n : Nat) (hn : l.length ≤ n * k ∧ 0 < k) (h : ∀ i, i < n → ((l.drop (i * k)).take k).all p = true) : ∀ x ∈ l, p x = true := by
  intro x hx
  obtain ⟨j, hj, rfl⟩ := List.mem_iff_getElem.mp hx
  have hi : j / k < n := (Nat.div_lt_iff_lt_mul hn.2).mpr (Nat.lt_of_lt_of_le hj hn.1)
  have hm : j % k < k := Nat.mod_lt _ hn.2
  have e : j / k * k + j % k = j := by rw [Nat.mul_comm]; exact Nat.div_add_mod j k
  have g := List.all_eq_true.mp (h _ hi)
  refine g _ (List.mem_of_getElem? (i := j % k) ?_)
  rw [List.getElem?_take_of_lt hm, List.getElem?_drop, e]
  exact List.getElem?_eq_getElem hj

theorem okC24aa : ((cs24.drop (0 * 6)).take 6).all chkC = true := by decide +kernel
theorem okC24 : ∀ c ∈ cs24, chkC c = true := all_chunks 6 1 (by decide +kernel) fun i hi => match i, hi with | 0, _ => okC24aa | _ + 1, h => absurd h (by omega)
theorem okN24 : ∀ c ∈ cs24, c.n ∈ ([4, 5, 6, 7] : List Int) := by decide +kernel
theorem okB24aa : (((words 2).drop (0 * 81)).take 81).all (chkB 2 4 cs24) = true := by decide +kernel
theorem okB24 : ∀ c ∈ (words 2), (chkB 2 4 cs24) c = true := all_chunks 81 1 (by decide +kernel) fun i hi => match i, hi with | 0, _ => okB24aa | _ + 1, h => absurd h (by omega)
theorem okC25aa : ((cs25.drop (0 * 6)).take 6).all chkC = true := by decide +kernel
theorem okC25ab : ((cs25.drop (1 * 6)).take 6).all chkC = true := by decide +kernel
theorem okC25 : ∀ c ∈ cs25, chkC c = true := all_chunks 6 2 (by decide +kernel) fun i hi => match i, hi with | 0, _ => okC25aa | 1, _ => okC25ab | _ + 2, h => absurd h (by omega)
theorem okN25 : ∀ c ∈ cs25, c.n ∈ ([4, 5, 6, 7] : List Int) := by decide +kernel
theorem okB25aa : (((words 3).drop (0 * 81)).take 81).all (chkB 2 5 cs25) = true := by decide +kernel
theorem okB25 : ∀ c ∈ (words 3), (chkB 2 5 cs25) c = true := all_chunks 81 1 (by decide +kernel) fun i hi => match i, hi with | 0, _ => okB25aa | _ + 1, h => absurd h (by omega)
theorem okC26aa : ((cs26.drop (0 * 6)).take 6).all chkC = true := by decide +kernel
theorem okC26ab : ((cs26.drop (1 * 6)).take 6).all chkC = true := by decide +kernel
theorem okC26ac : ((cs26.drop (2 * 6)).take 6).all chkC = true := by decide +kernel
theorem okC26 : ∀ c ∈ cs26, chkC c = true := all_chunks 6 3 (by decide +kernel) fun i hi => match i, hi with | 0, _ => okC26aa | 1, _ => okC26ab | 2, _ => okC26ac | _ + 3, h => absurd h (by omega)
theorem okN26 : ∀ c ∈ cs26, c.n ∈ ([4, 5, 6, 7] : List Int) := by decide +kernel
theorem okB26aa : (((words 3).drop (0 * 81)).take 81).all (chkB 2 6 cs26) = true := by decide +kernel
theorem okB26 : ∀ c ∈ (words 3), (chkB 2 6 cs26) c = true := all_chunks 81 1 (by decide +kernel) fun i hi => match i, hi with | 0, _ => okB26aa | _ + 1, h => absurd h (by omega)
theorem okC27aa : ((cs27.drop (0 * 6)).take 6).all chkC = true := by decide +kernel
theorem okC27ab : ((cs27.drop (1 * 6)).take 6).all chkC = true := by decide +kernel
theorem okC27ac : ((cs27.drop (2 * 6)).take 6).all chkC = true := by decide +kernel
theorem okC27ad : ((cs27.drop (3 * 6)).take 6).all chkC = true := by decide +kernel
theorem okC27ae : ((cs27.drop (4 * 6)).take 6).all chkC = true := by decide +kernel
theorem okC27af : ((cs27.drop (5 * 6)).take 6).all chkC = true := by decide +kernel
theorem okC27 : ∀ c ∈ cs27, chkC c = true := all_chunks 6 6 (by decide +kernel) fun i hi => match i, hi with | 0, _ => okC27aa | 1, _ => okC27ab | 2, _ => okC27ac | 3, _ => okC27ad | 4, _ => okC27ae | 5, _ => okC27af | _ + 6, h => absurd h (by omega)
theorem okN27 : ∀ c ∈ cs27, c.n ∈ ([4, 5, 6, 7] : List Int) := by decide +kernel
theorem okB27aa : (((words 4).drop (0 * 81)).take 81).all (chkB 2 7 cs27) = true := by decide +kernel
theorem okB27 : ∀ c ∈ (words 4), (chkB 2 7 cs27) c = true := all_chunks 81 1 (by decide +kernel) fun i hi => match i, hi with | 0, _ => okB27aa | _ + 1, h => absurd h (by omega)
theorem okC34aa : ((cs34.drop (0 * 6)).take 6).all chkC = true := by decide +kernel
theorem okC34ab : ((cs34.drop (1 * 6)).take 6).all chkC = true := by decide +kernel
theorem okC34 : ∀ c ∈ cs34, chkC c = true := all_chunks 6 2 (by decide +kernel) fun i hi => match i, hi with | 0, _ => okC34aa | 1, _ => okC34ab | _ + 2, h => absurd h (by omega)
theorem okN34 : ∀ c ∈ cs34, c.n ∈ ([4, 5, 6, 7] : List Int) := by decide +kernel
theorem okB34aa : (((words 3).drop (0 * 81)).take 81).all (chkB 3 4 cs34) = true := by decide +kernel
theorem okB34 : ∀ c ∈ (words 3), (chkB 3 4 cs34) c = true := all_chunks 81 1 (by decide +kernel) fun i hi => match i, hi with | 0, _ => okB34aa | _ + 1, h => absurd h (by omega)
theorem okC35aa : ((cs35.drop (0 * 6)).take 6).all chkC = true := by decide +kernel
theorem okC35ab : ((cs35.drop (1 * 6)).take 6).all chkC = true := by decide +kernel
theorem okC35ac : ((cs35.drop (2 * 6)).take 6).all chkC = true := by decide +kernel
theorem okC35ad : ((cs35.drop (3 * 6)).take 6).all chkC = true := by decide +kernel
theorem okC35 : ∀ c ∈ cs35, chkC c = true := all_chunks 6 4 (by decide +kernel) fun i hi => match i, hi with | 0, _ => okC35aa | 1, _ => okC35ab | 2, _ => okC35ac | 3, _ => okC35ad | _ + 4, h => absurd h (by omega)
theorem okN35 : ∀ c ∈ cs35, c.n ∈ ([4, 5, 6, 7] : List Int) := by decide +kernel
theorem okB35aa : (((words 4).drop (0 * 81)).take 81).all (chkB 3 5 cs35) = true := by decide +kernel
theorem okB35 : ∀ c ∈ (words 4), (chkB 3 5 cs35) c = true := all_chunks 81 1 (by decide +kernel) fun i hi => match i, hi with | 0, _ => okB35aa | _ + 1, h => absurd h (by omega)
theorem okC36aa : ((cs36.drop (0 * 6)).take 6).all chkC = true := by decide +kernel
theorem okC36ab : ((cs36.drop (1 * 6)).take 6).all chkC = true := by decide +kernel
theorem okC36ac : ((cs36.drop (2 * 6)).take 6).all chkC = true := by decide +kernel
theorem okC36ad : ((cs36.drop (3 * 6)).take 6).all chkC = true := by decide +kernel
theorem okC36ae : ((cs36.drop (4 * 6)).take 6).all chkC = true := by decide +kernel
theorem okC36af : ((cs36.drop (5 * 6)).take 6).all chkC = true := by decide +kernel
theorem okC36 : ∀ c ∈ cs36, chkC c = true := all_chunks 6 6 (by decide +kernel) fun i hi => match i, hi with | 0, _ => okC36aa | 1, _ => okC36ab | 2, _ => okC36ac | 3, _ => okC36ad | 4, _ => okC36ae | 5, _ => okC36af | _ + 6, h => absurd h (by omega)
theorem okN36 : ∀ c ∈ cs36, c.n ∈ ([4, 5, 6, 7] : List Int) := by decide +kernel
theorem okB36aa : (((words 4).drop (0 * 81)).take 81).all (chkB 3 6 cs36) = true := by decide +kernel
theorem okB36 : ∀ c ∈ (words 4), (chkB 3 6 cs36) c = true := all_chunks 81 1 (by decide +kernel) fun i hi => match i, hi with | 0, _ => okB36aa | _ + 1, h => absurd h (by omega)
theorem okC37aa : ((cs37.drop (0 * 6)).take 6).all chkC = true := by decide +kernel
theorem okC37ab : ((cs37.drop (1 * 6)).take 6).all chkC = true := by decide +kernel
theorem okC37ac : ((cs37.drop (2 * 6)).take 6).all chkC = true := by decide +kernel
theorem okC37ad : ((cs37.drop (3 * 6)).take 6).all chkC = true := by decide +kernel
theorem okC37ae : ((cs37.drop (4 * 6)).take 6).all chkC = true := by decide +kernel
theorem okC37af : ((cs37.drop (5 * 6)).take 6).all chkC = true := by decide +kernel
theorem okC37ag : ((cs37.drop (6 * 6)).take 6).all chkC = true := by decide +kernel
theorem okC37ah : ((cs37.drop (7 * 6)).take 6).all chkC = true := by decide +kernel
theorem okC37ai : ((cs37.drop (8 * 6)).take 6).all chkC = true := by decide +kernel
theorem okC37aj : ((cs37.drop (9 * 6)).take 6).all chkC = true := by decide +kernel
theorem okC37ak : ((cs37.drop (10 * 6)).take 6).all chkC = true := by decide +kernel
theorem okC37al : ((cs37.drop (11 * 6)).take 6).all chkC = true := by decide +kernel
theorem okC37 : ∀ c ∈ cs37, chkC c = true := all_chunks 6 12 (by decide +kernel) fun i hi => match i, hi with | 0, _ => okC37aa | 1, _ => okC37ab | 2, _ => okC37ac | 3, _ => okC37ad | 4, _ => okC37ae | 5, _ => okC37af | 6, _ => okC37ag | 7, _ => okC37ah | 8, _ => okC37ai | 9, _ => okC37aj | 10, _ => okC37ak | 11, _ => okC37al | _ + 12, h => absurd h (by omega)
theorem okN37 : ∀ c ∈ cs37, c.n ∈ ([4, 5, 6, 7] : List Int) := by decide +kernel
theorem okB37aa : (((words 5).drop (0 * 81)).take 81).all (chkB 3 7 cs37) = true := by decide +kernel
theorem okB37ab : (((words 5).drop (1 * 81)).take 81).all (chkB 3 7 cs37) = true := by decide +kernel
theorem okB37ac : (((words 5).drop (2 * 81)).take 81).all (chkB 3 7 cs37) = true := by decide +kernel
theorem okB37 : ∀ c ∈ (words 5), (chkB 3 7 cs37) c = true := all_chunks 81 3 (by decide +kernel) fun i hi => match i, hi with | 0, _ => okB37aa | 1, _ => okB37ab | 2, _ => okB37ac | _ + 3, h => absurd h (by omega)
theorem okD41 : chkD 4 1 = true := by decide +kernel
theorem okD42 : chkD 4 2 = true := by decide +kernel
theorem okD51 : chkD 5 1 = true := by decide +kernel
theorem okD52 : chkD 5 2 = true := by decide +kernel
theorem okD61 : chkD 6 1 = true := by decide +kernel
theorem okD62 : chkD 6 2 = true := by decide +kernel
theorem okD71 : chkD 7 1 = true := by decide +kernel
theorem okD72 : chkD 7 2 = true := by decide +kernel
theorem facts : Facts := by
  refine ⟨by decide +kernel, fun d hd n hn => ?_, fun n hn k hk => ?_⟩
  · simp only [List.mem_cons, List.not_mem_nil, or_false] at hd hn
    rcases hd with rfl | rfl <;> rcases hn with rfl | rfl | rfl | rfl
    · exact ⟨2, cs24, by decide, okB24, fun c hc => ⟨okC24 c hc, okN24 c hc⟩⟩
    · exact ⟨3, cs25, by decide, okB25, fun c hc => ⟨okC25 c hc, okN25 c hc⟩⟩
    · exact ⟨3, cs26, by decide, okB26, fun c hc => ⟨okC26 c hc, okN26 c hc⟩⟩
    · exact ⟨4, cs27, by decide, okB27, fun c hc => ⟨okC27 c hc, okN27 c hc⟩⟩
    · exact ⟨3, cs34, by decide, okB34, fun c hc => ⟨okC34 c hc, okN34 c hc⟩⟩
    · exact ⟨4, cs35, by decide, okB35, fun c hc => ⟨okC35 c hc, okN35 c hc⟩⟩
    · exact ⟨4, cs36, by decide, okB36, fun c hc => ⟨okC36 c hc, okN36 c hc⟩⟩
    · exact ⟨5, cs37, by decide, okB37, fun c hc => ⟨okC37 c hc, okN37 c hc⟩⟩
  · simp only [List.mem_cons, List.not_mem_nil, or_false] at hn hk
    rcases hn with rfl | rfl | rfl | rfl <;> rcases hk with rfl | rfl
    · exact okD41
    · exact okD42
    · exact okD51
    · exact okD52
    · exact okD61
    · exact okD62
    · exact okD71
    · exact okD72
end Mine


namespace Mine

noncomputable def itemAt (k : Nat) : Option DefItem := match defAt k with
  | .FunctionDef name args body _ _ _ scope _ _ pos => some ⟨name, args, body, scope, pos⟩
  | _ => none

theorem no_free {names : List (Str × NameKind)} (h : (names.all fun p => p.2 != .free) = true) : ∀ x, names.lookup x ≠ some .free := fun x e => by
  have := List.all_eq_true.mp h _ (mem_of_lookup e)
  simp at this

/-- a def as the top made it -/
theorem fnIs_of {d : DefItem} {mg : Str → Option Value} {h : Heap} {slots : List Str} {np : Nat} {ms : List MS} (x : d.Made 0 mg h) (h0 : d.params.defaults = [])
    (hbind : ∀ pm cd doc (vs : List Value), vs.length = np → bindArgs (Calls.docDef d.name d.params d.body d.scope pm cd doc) ⟨vs, []⟩ = pure ((slots.take np).zip vs))
    (hs : d.scope.isCoroutine = false ∧ d.scope.isGenerator = false ∧ d.scope.kind = .function) (hC : CSs T ⟨slots.map some, d.scope.names⟩ d.body ms)
    (hn : slots.Nodup ∧ np ≤ slots.length ∧ (d.scope.names.all fun p => p.2 != .free) = true ∧ ∀ x ∈ slots.take np, d.scope.names.lookup x = some .local ∨ d.scope.names.lookup x = some .cell) :
    ∃ a, mg d.name = some (.ref a) ∧ FnIs h a T slots np ms := by
  obtain ⟨a, c', o, pm, doc, _, _, h3, h4, h5, h6⟩ := x.plain h0
  refine ⟨a, h3, ⟨o, _, d.body, h4, h5, rfl, h6, rfl, rfl, rfl, hbind pm _ doc, hs.1, hs.2.1, hs.2.2, hC, hn.1, hn.2.1, no_free hn.2.2.1, hn.2.2.2⟩⟩

section
variable {mg : Str → Option Value} {h : Heap}
set_option maxRecDepth 100000
theorem is_gcd {d : DefItem} (e : itemAt 3 = some d) (x : d.Made 0 mg h) : ∃ a, mg "gcd" = some (.ref a) ∧ FnIs h a T sl_gcd 2 ms_gcd := by
  cases e
  exact fnIs_of x rfl (fun pm cd doc vs hv => match vs, hv with | [_, _], _ => rfl) ⟨rfl, rfl, rfl⟩ cs_gcd ⟨by decide +kernel, by decide +kernel, by decide +kernel, by decide +kernel⟩
theorem is_rat {d : DefItem} (e : itemAt 9 = some d) (x : d.Made 0 mg h) : ∃ a, mg "rat" = some (.ref a) ∧ FnIs h a T sl_rat 2 ms_rat := by
  cases e
  exact fnIs_of x rfl (fun pm cd doc vs hv => match vs, hv with | [_, _], _ => rfl) ⟨rfl, rfl, rfl⟩ cs_rat ⟨by decide +kernel, by decide +kernel, by decide +kernel, by decide +kernel⟩
theorem is_radd {d : DefItem} (e : itemAt 10 = some d) (x : d.Made 0 mg h) : ∃ a, mg "radd" = some (.ref a) ∧ FnIs h a T sl_radd 2 ms_radd := by
  cases e
  exact fnIs_of x rfl (fun pm cd doc vs hv => match vs, hv with | [_, _], _ => rfl) ⟨rfl, rfl, rfl⟩ cs_radd ⟨by decide +kernel, by decide +kernel, by decide +kernel, by decide +kernel⟩
theorem is_rsub {d : DefItem} (e : itemAt 11 = some d) (x : d.Made 0 mg h) : ∃ a, mg "rsub" = some (.ref a) ∧ FnIs h a T sl_rsub 2 ms_rsub := by
  cases e
  exact fnIs_of x rfl (fun pm cd doc vs hv => match vs, hv with | [_, _], _ => rfl) ⟨rfl, rfl, rfl⟩ cs_rsub ⟨by decide +kernel, by decide +kernel, by decide +kernel, by decide +kernel⟩
theorem is_rmul {d : DefItem} (e : itemAt 12 = some d) (x : d.Made 0 mg h) : ∃ a, mg "rmul" = some (.ref a) ∧ FnIs h a T sl_rmul 2 ms_rmul := by
  cases e
  exact fnIs_of x rfl (fun pm cd doc vs hv => match vs, hv with | [_, _], _ => rfl) ⟨rfl, rfl, rfl⟩ cs_rmul ⟨by decide +kernel, by decide +kernel, by decide +kernel, by decide +kernel⟩
theorem is_rdiv {d : DefItem} (e : itemAt 13 = some d) (x : d.Made 0 mg h) : ∃ a, mg "rdiv" = some (.ref a) ∧ FnIs h a T sl_rdiv 2 ms_rdiv := by
  cases e
  exact fnIs_of x rfl (fun pm cd doc vs hv => match vs, hv with | [_, _], _ => rfl) ⟨rfl, rfl, rfl⟩ cs_rdiv ⟨by decide +kernel, by decide +kernel, by decide +kernel, by decide +kernel⟩
theorem is_is_vast {d : DefItem} (e : itemAt 14 = some d) (x : d.Made 0 mg h) : ∃ a, mg "is_vast" = some (.ref a) ∧ FnIs h a T sl_is_vast 1 ms_is_vast := by
  cases e
  exact fnIs_of x rfl (fun pm cd doc vs hv => match vs, hv with | [_], _ => rfl) ⟨rfl, rfl, rfl⟩ cs_is_vast ⟨by decide +kernel, by decide +kernel, by decide +kernel, by decide +kernel⟩
theorem is_cut {d : DefItem} (e : itemAt 16 = some d) (x : d.Made 0 mg h) : ∃ a, mg "cut" = some (.ref a) ∧ FnIs h a T sl_cut 2 ms_cut := by
  cases e
  exact fnIs_of x rfl (fun pm cd doc vs hv => match vs, hv with | [_, _], _ => rfl) ⟨rfl, rfl, rfl⟩ cs_cut ⟨by decide +kernel, by decide +kernel, by decide +kernel, by decide +kernel⟩
theorem is_let {d : DefItem} (e : itemAt 17 = some d) (x : d.Made 0 mg h) : ∃ a, mg "let" = some (.ref a) ∧ FnIs h a T sl_let 1 ms_let := by
  cases e
  exact fnIs_of x rfl (fun pm cd doc vs hv => match vs, hv with | [_], _ => rfl) ⟨rfl, rfl, rfl⟩ cs_let ⟨by decide +kernel, by decide +kernel, by decide +kernel, by decide +kernel⟩
theorem is_mixed {d : DefItem} (e : itemAt 18 = some d) (x : d.Made 0 mg h) : ∃ a, mg "mixed" = some (.ref a) ∧ FnIs h a T sl_mixed 3 ms_mixed := by
  cases e
  exact fnIs_of x rfl (fun pm cd doc vs hv => match vs, hv with | [_, _, _], _ => rfl) ⟨rfl, rfl, rfl⟩ cs_mixed ⟨by decide +kernel, by decide +kernel, by decide +kernel, by decide +kernel⟩
theorem is_smul {d : DefItem} (e : itemAt 19 = some d) (x : d.Made 0 mg h) : ∃ a, mg "smul" = some (.ref a) ∧ FnIs h a T sl_smul 2 ms_smul := by
  cases e
  exact fnIs_of x rfl (fun pm cd doc vs hv => match vs, hv with | [_, _], _ => rfl) ⟨rfl, rfl, rfl⟩ cs_smul ⟨by decide +kernel, by decide +kernel, by decide +kernel, by decide +kernel⟩
theorem is_sinverse {d : DefItem} (e : itemAt 20 = some d) (x : d.Made 0 mg h) : ∃ a, mg "sinverse" = some (.ref a) ∧ FnIs h a T sl_sinverse 1 ms_sinverse := by
  cases e
  exact fnIs_of x rfl (fun pm cd doc vs hv => match vs, hv with | [_], _ => rfl) ⟨rfl, rfl, rfl⟩ cs_sinverse ⟨by decide +kernel, by decide +kernel, by decide +kernel, by decide +kernel⟩
theorem is_swhole_power {d : DefItem} (e : itemAt 21 = some d) (x : d.Made 0 mg h) : ∃ a, mg "swhole_power" = some (.ref a) ∧ FnIs h a T sl_swhole_power 2 ms_swhole_power := by
  cases e
  exact fnIs_of x rfl (fun pm cd doc vs hv => match vs, hv with | [_, _], _ => rfl) ⟨rfl, rfl, rfl⟩ cs_swhole_power ⟨by decide +kernel, by decide +kernel, by decide +kernel, by decide +kernel⟩
theorem is_law_draw {d : DefItem} (e : itemAt 23 = some d) (x : d.Made 0 mg h) : ∃ a, mg "_law_draw" = some (.ref a) ∧ FnIs h a T sl_law_draw 2 ms_law_draw := by
  cases e
  exact fnIs_of x rfl (fun pm cd doc vs hv => match vs, hv with | [_, _], _ => rfl) ⟨rfl, rfl, rfl⟩ cs_law_draw ⟨by decide +kernel, by decide +kernel, by decide +kernel, by decide +kernel⟩
theorem is_law_row {d : DefItem} (e : itemAt 24 = some d) (x : d.Made 0 mg h) : ∃ a, mg "_law_row" = some (.ref a) ∧ FnIs h a T sl_law_row 2 ms_law_row := by
  cases e
  exact fnIs_of x rfl (fun pm cd doc vs hv => match vs, hv with | [_, _], _ => rfl) ⟨rfl, rfl, rfl⟩ cs_law_row ⟨by decide +kernel, by decide +kernel, by decide +kernel, by decide +kernel⟩
theorem is_law_product {d : DefItem} (e : itemAt 25 = some d) (x : d.Made 0 mg h) : ∃ a, mg "_law_product" = some (.ref a) ∧ FnIs h a T sl_law_product 2 ms_law_product := by
  cases e
  exact fnIs_of x rfl (fun pm cd doc vs hv => match vs, hv with | [_, _], _ => rfl) ⟨rfl, rfl, rfl⟩ cs_law_product ⟨by decide +kernel, by decide +kernel, by decide +kernel, by decide +kernel⟩
theorem is_law_lots {d : DefItem} (e : itemAt 26 = some d) (x : d.Made 0 mg h) : ∃ a, mg "_law_lots" = some (.ref a) ∧ FnIs h a T sl_law_lots 2 ms_law_lots := by
  cases e
  exact fnIs_of x rfl (fun pm cd doc vs hv => match vs, hv with | [_, _], _ => rfl) ⟨rfl, rfl, rfl⟩ cs_law_lots ⟨by decide +kernel, by decide +kernel, by decide +kernel, by decide +kernel⟩
theorem is_law_joined {d : DefItem} (e : itemAt 27 = some d) (x : d.Made 0 mg h) : ∃ a, mg "_law_joined" = some (.ref a) ∧ FnIs h a T sl_law_joined 2 ms_law_joined := by
  cases e
  exact fnIs_of x rfl (fun pm cd doc vs hv => match vs, hv with | [_, _], _ => rfl) ⟨rfl, rfl, rfl⟩ cs_law_joined ⟨by decide +kernel, by decide +kernel, by decide +kernel, by decide +kernel⟩
theorem is_law_often {d : DefItem} (e : itemAt 28 = some d) (x : d.Made 0 mg h) : ∃ a, mg "_law_often" = some (.ref a) ∧ FnIs h a T sl_law_often 1 ms_law_often := by
  cases e
  exact fnIs_of x rfl (fun pm cd doc vs hv => match vs, hv with | [_], _ => rfl) ⟨rfl, rfl, rfl⟩ cs_law_often ⟨by decide +kernel, by decide +kernel, by decide +kernel, by decide +kernel⟩
theorem is_law_side {d : DefItem} (e : itemAt 29 = some d) (x : d.Made 0 mg h) : ∃ a, mg "_law_side" = some (.ref a) ∧ FnIs h a T sl_law_side 1 ms_law_side := by
  cases e
  exact fnIs_of x rfl (fun pm cd doc vs hv => match vs, hv with | [_], _ => rfl) ⟨rfl, rfl, rfl⟩ cs_law_side ⟨by decide +kernel, by decide +kernel, by decide +kernel, by decide +kernel⟩
theorem is_law_mirror {d : DefItem} (e : itemAt 30 = some d) (x : d.Made 0 mg h) : ∃ a, mg "_law_mirror" = some (.ref a) ∧ FnIs h a T sl_law_mirror 1 ms_law_mirror := by
  cases e
  exact fnIs_of x rfl (fun pm cd doc vs hv => match vs, hv with | [_], _ => rfl) ⟨rfl, rfl, rfl⟩ cs_law_mirror ⟨by decide +kernel, by decide +kernel, by decide +kernel, by decide +kernel⟩
theorem is_law {d : DefItem} (e : itemAt 31 = some d) (x : d.Made 0 mg h) : ∃ a, mg "law" = some (.ref a) ∧ FnIs h a T sl_law 1 ms_law := by
  cases e
  exact fnIs_of x rfl (fun pm cd doc vs hv => match vs, hv with | [_], _ => rfl) ⟨rfl, rfl, rfl⟩ cs_law ⟨by decide +kernel, by decide +kernel, by decide +kernel, by decide +kernel⟩

theorem bn_ok {mb : Str → Option Value} (hg : ∀ x ∈ (["abs", "len", "max", "min", "sorted", "list", "int", "range", "enumerate"] : List Str), mg x = none) (hb : ∀ x : Str, x ≠ "__name__" → mb x = bootBuiltins x) : (∀ t : Blt, mg (bNm t) = none ∧ mb (bNm t) = some (bFn t)) ∧ (mg "range" = none ∧ mb "range" = some (.type "range")) ∧ (mg "enumerate" = none ∧ mb "enumerate" = some (.type "enumerate")) := by
  have at_ : ∀ {x : Str} {v : Value}, x ∈ (["abs", "len", "max", "min", "sorted", "list", "int", "range", "enumerate"] : List Str) → x ≠ "__name__" → bootBuiltins x = some v → mg x = none ∧ mb x = some v := fun h1 h2 h3 => ⟨hg _ h1, (hb _ h2).trans h3⟩
  refine ⟨fun t => ?_, ?_, ?_⟩
  · cases t
    · exact at_ (x := "abs") (by decide +kernel) (by decide +kernel) (by boot_fast)
    · exact at_ (x := "len") (by decide +kernel) (by decide +kernel) (by boot_fast)
    · exact at_ (x := "max") (by decide +kernel) (by decide +kernel) (by boot_fast)
    · exact at_ (x := "min") (by decide +kernel) (by decide +kernel) (by boot_fast)
    · exact at_ (x := "list") (by decide +kernel) (by decide +kernel) (by boot_fast)
    · exact at_ (x := "sorted") (by decide +kernel) (by decide +kernel) (by boot_fast)
    · exact at_ (x := "int") (by decide +kernel) (by decide +kernel) (by boot_fast)
  · exact at_ (x := "range") (by decide +kernel) (by decide +kernel) (by boot_fast)
  · exact at_ (x := "enumerate") (by decide +kernel) (by decide +kernel) (by boot_fast)

theorem rd_pair {O : Nat → D} {a : Addr} {o : Obj} {x y : Int} {t u : Tok} {n : Nat} {xs : Array Value} (ho : h.get? a = some o) (hc : o.cls = .type "tuple") (hd : o.data = .seq xs n) (hx : xs.toList = [.int x t, .int y u]) : RD O (fun a o => h.get? a = some o) (.ref a) (.tup [.int x, .int y]) := by
  have : xs = (xs.toList).toArray := by simp
  rw [this] at hd
  rw [hx] at hd
  exact .tup ho hc hd (.cons (.int x t) (.cons (.int y u) .nil))

theorem bs_of {mb : Str → Option Value} {defs : List DefItem} {consts : List (Str × PyData)} {objs : List (Str × (Obj → Prop))} {names : List Str} (GL : Glob 0 mg mb defs consts objs names h)
    (hm : ∀ k ∈ [3, 9, 10, 11, 12, 13, 14, 16, 17, 18, 19, 20, 21, 23, 24, 25, 26, 27, 28, 29, 30, 31], ∃ d, itemAt k = some d ∧ d ∈ defs)
    (hg : ∀ x ∈ (["abs", "len", "max", "min", "sorted", "list", "int", "range", "enumerate"] : List Str), mg x = none)
    (h0 : ∃ a o xs n t u, mg "R0" = some (.ref a) ∧ h.get? a = some o ∧ o.cls = .type "tuple" ∧ o.data = .seq xs n ∧ xs.toList = [.int 0 t, .int 1 u])
    (h1 : ∃ a o xs n t u, mg "R1" = some (.ref a) ∧ h.get? a = some o ∧ o.cls = .type "tuple" ∧ o.data = .seq xs n ∧ xs.toList = [.int 1 t, .int 1 u]) :
    Bs h mg mb ∧ ∃ a, mg "law" = some (.ref a) ∧ FnIs h a T sl_law 1 ms_law := by
  obtain ⟨b1, b2, b3⟩ := bn_ok hg GL.builtins
  have mk : ∀ k ∈ [3, 9, 10, 11, 12, 13, 14, 16, 17, 18, 19, 20, 21, 23, 24, 25, 26, 27, 28, 29, 30, 31], ∃ d, itemAt k = some d ∧ d.Made 0 mg h := fun k hk => by
    obtain ⟨d, e, m⟩ := hm k hk
    exact ⟨d, e, GL.made d m⟩
  refine ⟨⟨GL.g, GL.b, GL.nolimit, ?_, ?_, b1, b2, b3, fun f np sl ms e => ?_⟩, ?_⟩
  · obtain ⟨a, o, xs, n, t, u, q1, q2, q3, q4, q5⟩ := h0
    exact ⟨_, q1, fun O => rd_pair q2 q3 q4 q5⟩
  · obtain ⟨a, o, xs, n, t, u, q1, q2, q3, q4, q5⟩ := h1
    exact ⟨_, q1, fun O => rd_pair q2 q3 q4 q5⟩
  · match f, e with
    | 0, e => cases e; obtain ⟨d, e1, x⟩ := mk 3 (by decide); exact is_gcd e1 x
    | 2, e => cases e; obtain ⟨d, e1, x⟩ := mk 9 (by decide); exact is_rat e1 x
    | 3, e => cases e; obtain ⟨d, e1, x⟩ := mk 10 (by decide); exact is_radd e1 x
    | 4, e => cases e; obtain ⟨d, e1, x⟩ := mk 11 (by decide); exact is_rsub e1 x
    | 5, e => cases e; obtain ⟨d, e1, x⟩ := mk 12 (by decide); exact is_rmul e1 x
    | 6, e => cases e; obtain ⟨d, e1, x⟩ := mk 13 (by decide); exact is_rdiv e1 x
    | 7, e => cases e; obtain ⟨d, e1, x⟩ := mk 14 (by decide); exact is_is_vast e1 x
    | 8, e => cases e; obtain ⟨d, e1, x⟩ := mk 16 (by decide); exact is_cut e1 x
    | 9, e => cases e; obtain ⟨d, e1, x⟩ := mk 17 (by decide); exact is_let e1 x
    | 10, e => cases e; obtain ⟨d, e1, x⟩ := mk 18 (by decide); exact is_mixed e1 x
    | 11, e => cases e; obtain ⟨d, e1, x⟩ := mk 19 (by decide); exact is_smul e1 x
    | 12, e => cases e; obtain ⟨d, e1, x⟩ := mk 20 (by decide); exact is_sinverse e1 x
    | 13, e => cases e; obtain ⟨d, e1, x⟩ := mk 21 (by decide); exact is_swhole_power e1 x
    | 14, e => cases e; obtain ⟨d, e1, x⟩ := mk 23 (by decide); exact is_law_draw e1 x
    | 15, e => cases e; obtain ⟨d, e1, x⟩ := mk 24 (by decide); exact is_law_row e1 x
    | 16, e => cases e; obtain ⟨d, e1, x⟩ := mk 25 (by decide); exact is_law_product e1 x
    | 17, e => cases e; obtain ⟨d, e1, x⟩ := mk 26 (by decide); exact is_law_lots e1 x
    | 18, e => cases e; obtain ⟨d, e1, x⟩ := mk 27 (by decide); exact is_law_joined e1 x
    | 19, e => cases e; obtain ⟨d, e1, x⟩ := mk 28 (by decide); exact is_law_often e1 x
    | 20, e => cases e; obtain ⟨d, e1, x⟩ := mk 29 (by decide); exact is_law_side e1 x
    | 21, e => cases e; obtain ⟨d, e1, x⟩ := mk 30 (by decide); exact is_law_mirror e1 x
    | 1, e => cases e
    | _ + 22, e => cases e
  · obtain ⟨d, e1, x⟩ := mk 31 (by decide)
    exact is_law e1 x
end
end Mine


namespace Mine

theorem well_list {P : Params} {h : Heap} {l : Addr} {d : WData} {xs : List WData} (W : Well P h (.ref l) d) (e : d = .list xs) : ∃ vs : List Value, h.get? l = some (listOf vs.toArray 0) := by
  subst e
  cases W with
  | list g _ => exact ⟨_, g⟩

theorem law_ends (X : Facts) {prog : Program} {w : World} {mg mb : Str → Option Value} {s : Shared} {fa l : Addr} {vs : List Value} {ns : List Int} {nn : Nat} {A : Around} {R : Result → Shared → Prop} (BS : Bs s.heap mg mb) (FI : FnIs s.heap fa T sl_law 1 ms_law)
    (hl : s.heap.get? l = some (listOf vs.toArray nn)) (hI : IntsAre vs ns) (h63 : ns.length ≤ 63) (rm : Room A 22) (K : ∀ h' tk, (∀ b o, s.heap.get? b = some o → h'.get? b = some o) → R (.ok (.ret (.bool true))) { s with heap := h', toks := tk }) :
    codeAny (model prog w) A (.call (.ref fa) ⟨[.ref l], []⟩) R s := by
  have hc : (ns.take 8).length < 100 := by rw [List.length_take]; omega
  have Gd : ∀ F, LawP ns F → Gl (lawO ns) T s.heap prog w 21 F G0 srtL mg mb := fun F hF => by
    obtain ⟨rs, hrs, rfl⟩ := hF
    exact gl_of BS (goodx BS hc rfl hrs 16 (by decide))
  have ok : FnOk (lawO ns) s.heap prog w 22 fa (pLaw ns) := fn_runP (P := LawP ns) Gd ⟨_, [], told_nil, rfl⟩ FI (law_run X h63)
  refine ok A s (fun a o => s.heap.get? a = some o) [] [] [] [.ref l] [.d (.lst (ns.map .int))] (.bool true) R rm ⟨fun _ _ h => h, fun _ _ h => h, rfl, fun i a l e => by simp at e, fun a h => (nomatch h), .nil⟩ (.cons (.d (.lst hl (RDs_ints hI))) .nil) ?_ fun v h' tk Z' x r => ?_
  · simp [pLaw, deqs_refl]
  · cases r
    exact K h' tk fun b o e => x.keep b o (by simp) (fun q => q) e
end Mine


set_option linter.unusedVariables false
set_option linter.unusedSimpArgs false
namespace Mine
noncomputable def viewP : Program := { PySem.Challenge.pw_xm0070_01 with main := { PySem.Challenge.pw_xm0070_01.main with body := [defAt 1, defAt 3, defAt 4, defAt 6, defAt 7, defAt 8, defAt 9, defAt 10, defAt 11, defAt 12, defAt 13, defAt 14, defAt 16, defAt 17, defAt 18, defAt 19, defAt 20, defAt 21, defAt 23, defAt 24, defAt 25, defAt 26, defAt 27, defAt 28, defAt 29, defAt 30, defAt 31] } }
/-- the two ratios of the top: where they lie -/
noncomputable def pairO (x y : Int) (t u : Tok) : Obj := ⟨.type "tuple", none, .seq #[.int x t, .int y u] 0, #[]⟩
structure RatsAt (h : Heap) : Prop where
  n0 : h.nsMap mainGlobals (Str.ofString "R0") = some (.ref 49)
  n1 : h.nsMap mainGlobals (Str.ofString "R1") = some (.ref 50)
  o0 : h.get? 49 = some (pairO 0 1 242 243)
  o1 : h.get? 50 = some (pairO 1 1 245 246)
theorem nsMap_keeps {h h' : Heap} {n : Str} {v : Value} (e : h.nsMap mainGlobals n = some v) (k : ∀ b o, h.get? b = some o → h'.get? b = some o) : h'.nsMap mainGlobals n = some v := by
  unfold Heap.nsMap at e ⊢
  cases q : h.get? mainGlobals with
  | none => rw [q] at e; cases e
  | some o => rw [q] at e; rw [k _ _ q]; exact e
noncomputable def hookR : Hook where
  α := (Option Value × Option Value) × (Option Obj × Option Obj)
  obs s := ((s.heap.nsMap mainGlobals (Str.ofString "R0"), s.heap.nsMap mainGlobals (Str.ofString "R1")), (s.heap.get? 49, s.heap.get? 50))
  val _ := ((some (.ref 49), some (.ref 50)), (some (pairO 0 1 242 243), some (pairO 1 1 245 246)))
  says _ h := RatsAt h
  of _ _ e := ⟨congrArg (fun x => x.1.1) e, congrArg (fun x => x.1.2) e, congrArg (fun x => x.2.1) e, congrArg (fun x => x.2.2) e⟩
  keeps _ _ _ X k := ⟨nsMap_keeps X.n0 k, nsMap_keeps X.n1 k, k _ _ X.o0, k _ _ X.o1⟩
theorem mg_at {h : Heap} {mg : Str → Option Value} {n : Str} {v : Value} (e : h.nsMap mainGlobals n = some v) (G : h.Ns mainGlobals mg) : mg n = some v := by
  obtain ⟨o, es, ep, ho, hd, _, hf⟩ := G
  unfold Heap.nsMap at e
  rw [ho] at e
  simp only [hd] at e
  rw [← hf]; exact e
theorem saidAll : PySem.Challenge.rw_xm0070_01.wellSaid = true := by decide +kernel
end Mine
set_option maxRecDepth 100000 in
set_option maxHeartbeats 8000000 in
theorem PySem.Challenge.cw_xm0070_01_holds : PySem.Challenge.rw_xm0070_01.Holds := by
  w_on
  refine holds_law Mine.saidAll fun said => ?_
  refine holds_open (q := Mine.viewP) (loose := []) (Xt := fun s => xlAt Mine.viewP [] s && recOk (RowW.records (OpenRow.toRowW PySem.Challenge.rw_xm0070_01.row)) s) (XP := XL Mine.viewP []) (Yf := Hook.obs Mine.hookR) (Ya := Hook.val Mine.hookR) (YP := Hook.says Mine.hookR) (N := 2100) ?hl (Hook.of _) (Hook.keeps _) (fun s e => xl_of s (Bool.and_eq_true_iff.mp e).1) XL.keeps (by rfl) (by rfl) (by rfl) (fun s e => recFacts_of (Bool.and_eq_true_iff.mp e).2) (by rfl) (by first | assumption | decide +kernel) (by decide +kernel) ⟨rfl, rfl, rfl, rfl, rfl, by decide +kernel⟩ ?hw ?hc
  case hl => intro w; kernel_rfl
  case hw => w_witness2
  case hc =>
    intro w s₀ s₁ mg mb G Y fa o pm cd doc dV kV ho hd hcd hD hmg hg args vals as hpre hlay hrd hwl hlo
    have X := (Ground.X G).1
    have V := (Ground.X G).2
    have GL := glob_more (Ground.glob G (by decide +kernel) (by decide +kernel)) V
    refine Ground.open G ?_
    intro T B D TE TW
    clear hd ho hcd hD V X B D TE TW
    wrow_args hpre hlay hrd hwl hlo
    rename_i ns _ _ _ _ _ _ _ l vs _ hL _ w1 _ hI _ hlen _
    have hgn : ∀ x ∈ (["abs", "len", "max", "min", "sorted", "list", "int", "range", "enumerate"] : List Str), mg x = none := by
      intro x hx
      refine GL.free x ?_ ?_
      · revert x; decide +kernel
      · revert x; decide +kernel
    obtain ⟨BS, a, ha, FI⟩ := Mine.bs_of GL (by
      intro k hk
      simp only [List.mem_cons, List.not_mem_nil, or_false] at hk
      rcases hk with rfl | rfl | rfl | rfl | rfl | rfl | rfl | rfl | rfl | rfl | rfl | rfl | rfl | rfl | rfl | rfl | rfl | rfl | rfl | rfl | rfl | rfl
      · exact ⟨_, rfl, List.mem_of_getElem? (i := 0) (by kernel_rfl)⟩
      · exact ⟨_, rfl, List.mem_of_getElem? (i := 2) (by kernel_rfl)⟩
      · exact ⟨_, rfl, List.mem_of_getElem? (i := 3) (by kernel_rfl)⟩
      · exact ⟨_, rfl, List.mem_of_getElem? (i := 4) (by kernel_rfl)⟩
      · exact ⟨_, rfl, List.mem_of_getElem? (i := 5) (by kernel_rfl)⟩
      · exact ⟨_, rfl, List.mem_of_getElem? (i := 6) (by kernel_rfl)⟩
      · exact ⟨_, rfl, List.mem_of_getElem? (i := 7) (by kernel_rfl)⟩
      · exact ⟨_, rfl, List.mem_of_getElem? (i := 8) (by kernel_rfl)⟩
      · exact ⟨_, rfl, List.mem_of_getElem? (i := 9) (by kernel_rfl)⟩
      · exact ⟨_, rfl, List.mem_of_getElem? (i := 10) (by kernel_rfl)⟩
      · exact ⟨_, rfl, List.mem_of_getElem? (i := 11) (by kernel_rfl)⟩
      · exact ⟨_, rfl, List.mem_of_getElem? (i := 12) (by kernel_rfl)⟩
      · exact ⟨_, rfl, List.mem_of_getElem? (i := 13) (by kernel_rfl)⟩
      · exact ⟨_, rfl, List.mem_of_getElem? (i := 14) (by kernel_rfl)⟩
      · exact ⟨_, rfl, List.mem_of_getElem? (i := 15) (by kernel_rfl)⟩
      · exact ⟨_, rfl, List.mem_of_getElem? (i := 16) (by kernel_rfl)⟩
      · exact ⟨_, rfl, List.mem_of_getElem? (i := 17) (by kernel_rfl)⟩
      · exact ⟨_, rfl, List.mem_of_getElem? (i := 18) (by kernel_rfl)⟩
      · exact ⟨_, rfl, List.mem_of_getElem? (i := 19) (by kernel_rfl)⟩
      · exact ⟨_, rfl, List.mem_of_getElem? (i := 20) (by kernel_rfl)⟩
      · exact ⟨_, rfl, List.mem_of_getElem? (i := 21) (by kernel_rfl)⟩
      · exact ⟨_, rfl, List.mem_of_getElem? (i := 22) (by kernel_rfl)⟩) hgn ⟨49, _, _, _, _, _, Mine.mg_at Y.n0 GL.g, Y.o0, rfl, rfl, rfl⟩ ⟨50, _, _, _, _, _, Mine.mg_at Y.n1 GL.g, Y.o1, rfl, rfl, rfl⟩
    have ea : a = fa := by
      have := ha.symm.trans hmg
      cases this; rfl
    subst ea
    obtain ⟨us, hus⟩ := Mine.well_list w1 rfl
    have evs : us = vs := by
      obtain ⟨o, g1, g2, n, g3⟩ := hL
      rw [hus] at g1
      cases g1
      cases g3
      rfl
    subst evs
    refine enter_call ?_
    refine Mine.law_ends Mine.facts BS FI hus hI (by omega) ⟨by decide, by decide, rfl⟩ fun h' tk k => ?_
    refine GoodW.toG ⟨.inl ⟨_, .bool true, [], rfl, fun _ => rfl, .bool true, ?_, fun _ => ⟨.nil, fun a h => (nomatch h)⟩⟩, k, rfl, hg⟩
    wrow_post

