import PyProof.Rows.All
import HandS.ForMost
import HandS.Exc
import HandS.TryOnly
import HandS.TryMany
import HandS.ExcOwn
import HandS.WordsExc
import HandS.CallSlots
import HandS.IsInst
import HandS.Wide
import HandS.TupAny
import KE.SortData
import KE.KeyNested
import KE.KExcSuper
import KE.KExcIs
import HandS.ExcIs
import HandS.ExcField
import HandS.TupMul
import HandS.Dict
import HandS.EndBits
import KE.DatumMore
import PySem.Challenge.RW_turnsneeded_k24_tasks_judged
set_option Elab.async false
set_option linter.all false
set_option maxRecDepth 100000
set_option maxHeartbeats 4000000
set_option autoImplicit false
/-! DL1: data, cells, states, results; what an expression, a test, a statement, a def computes as a plain function of them. -/
namespace DL
open PySem PySem.Spec PyProof.Rows L2

abbrev St := L2.St
/-- a value as data: nothing of it is written any more -/
inductive D where
  | non | bl (b : Bool) | int (i : Int) | str (x : Str)
  | tup (ds : List D) | lst (ds : List D)
  | scr (ns : List Int)
  | ins (C : Addr) (fs : List (Str × D))
  | typ (n : String) | adr (a : Addr)
  | dct (kvs : List (Key × D))
  | xn (a : Addr) (C : Addr) (d : Option Addr) (fs : List (Str × D))
instance : Inhabited D := ⟨.non⟩
/-- what a slot holds: data, the n-th cell, the list within the n-th cell (a tape) -/
inductive S where
  | d (x : D) | c (n : Nat) | i (n : Nat)
instance : Inhabited S := ⟨.d .non⟩
/-- a thing that is still written; tp: a list of data with one list of ints in it -/
inductive Cell where
  | lst (xs : List D) | ins (C : Addr) (fs : List (Str × D)) | dk (kvs : List (Key × D)) | tp (pre : List D) (cs : List Int) (post : List D) | dead
abbrev G := List Cell
abbrev Env := List (Option S)
/-- a result: a value; an exception of the class at C with its fields; nothing is said -/
inductive R (α : Type) where
  | ok (a : α) (g : G) | exc (C : Addr) (fs : List (Str × D)) (g : G) | bad
def R.bind {α β : Type} (r : R α) (f : α → G → R β) : R β :=
  match r with
  | .ok a g => f a g
  | .exc C fs g => .exc C fs g
  | .bad => .bad
@[simp] theorem R.bind_ok {α β : Type} (a : α) (g : G) (f : α → G → R β) : (R.ok a g).bind f = f a g := rfl
@[simp] theorem R.bind_exc {α β : Type} (C fs g) (f : α → G → R β) : (R.exc C fs g : R α).bind f = .exc C fs g := rfl
@[simp] theorem R.bind_bad {α β : Type} (f : α → G → R β) : (R.bad : R α).bind f = .bad := rfl
abbrev DE (α : Type) := Env → G → R α
/-- a def as a function -/
abbrev DF := List S → G → R S

/-! ### what stands for what -/
/-- a plain class of the program, object its only base -/
structure KC (K : PySem.W.Frag) (C : Addr) : Prop where
  cl : Cls K C
  ha : PySem.W.findIn K (.ref C) "__class__" = some (some (.builtin "object.__class__"))
  hn : PySem.W.specialIn K (.builtin "object.__class__") "__get__" = some (some (.builtin "getset_descriptor.__get__"))
  htk : PySem.W.takesIn K (.builtin "object.__class__") = some true
  cd : ∃ cd, PySem.W.clsIn K C = some cd ∧ cd.mro = [.ref C, .type "object"]
  ty : PySem.W.typeIn K (.ref C) = some (.type "type")
mutual
inductive Dn (K : PySem.W.Frag) (F : Hp) : V → D → Prop
  | non : Dn K F .non .non
  | bl (b : Bool) : Dn K F (.bl b) (.bl b)
  | int (i : Int) : Dn K F (.int i) (.int i)
  | str (x : Str) : Dn K F (.str x) (.str x)
  | tup {a : Addr} {xs : List V} {ds : List D} : SqT K F a xs → DnL K F xs ds → Dn K F (.ref a) (.tup ds)
  | lst {a : Addr} {xs : List V} {ds : List D} : F a = some (.lst xs) → DnL K F xs ds → Dn K F (.ref a) (.lst ds)
  | scr {a : Addr} {ns : List Int} : SqL K F a (ns.map V.int) → Dn K F (.ref a) (.scr ns)
  | ins {a C dx : Addr} {fs : List (Str × V)} {gs : List (Str × D)} : KC K C → F a = some (.ins C dx fs) → DnF K F fs gs → Dn K F (.ref a) (.ins C gs)
  | typ (n : String) : Dn K F (.ty n) (.typ n)
  | adr (a : Addr) : Dn K F (.ref a) (.adr a)
  | dct {a : Addr} {kvs : List (Key × V)} {ds : List (Key × D)} : F a = some (.dK kvs) → DnK K F kvs ds → Dn K F (.ref a) (.dct ds)
  | xn0 (a C : Addr) : Dn K F (.ref a) (.xn a C none [])
  | xn1 {a C dx : Addr} {fs : List (Str × V)} {gs : List (Str × D)} : F dx = some (.xd fs) → DnF K F fs gs → Dn K F (.ref a) (.xn a C (some dx) gs)
inductive DnL (K : PySem.W.Frag) (F : Hp) : List V → List D → Prop
  | nil : DnL K F [] []
  | cons {v : V} {vs : List V} {d : D} {ds : List D} : Dn K F v d → DnL K F vs ds → DnL K F (v :: vs) (d :: ds)
inductive DnF (K : PySem.W.Frag) (F : Hp) : List (Str × V) → List (Str × D) → Prop
  | nil : DnF K F [] []
  | cons {f : Str} {v : V} {vs : List (Str × V)} {d : D} {ds : List (Str × D)} : Dn K F v d → DnF K F vs ds → DnF K F ((f, v) :: vs) ((f, d) :: ds)
inductive DnK (K : PySem.W.Frag) (F : Hp) : List (Key × V) → List (Key × D) → Prop
  | nil : DnK K F [] []
  | cons {k : Key} {v : V} {vs : List (Key × V)} {d : D} {ds : List (Key × D)} : Dn K F v d → DnK K F vs ds → DnK K F ((k, v) :: vs) ((k, d) :: ds)
end
/-- all that was known is as it was -/
abbrev Ex (H H' : Hp) : Prop := ∀ a o, H a = some o → H' a = some o
theorem ex_rd {H H' : Hp} {a : Addr} {u : HO} (e : Ex H H') (h : Rd H a u) : Rd H' a u := by
  rcases h with h | ⟨o, h⟩
  · exact .inl (e _ _ h)
  · exact .inr ⟨o, e _ _ h⟩
theorem ex_l {K : PySem.W.Frag} {H H' : Hp} {a : Addr} {xs : List V} (e : Ex H H') (h : SqL K H a xs) : SqL K H' a xs := by
  rcases h with h | h
  · exact .inl (ex_rd e h)
  · exact .inr h
theorem ex_t {K : PySem.W.Frag} {H H' : Hp} {a : Addr} {xs : List V} (e : Ex H H') (h : SqT K H a xs) : SqT K H' a xs := by
  rcases h with h | h
  · exact .inl (ex_rd e h)
  · exact .inr h
theorem ex_trans {H H1 H2 : Hp} (a : Ex H H1) (b : Ex H1 H2) : Ex H H2 := fun x o h => b x o (a x o h)
section
variable {K : PySem.W.Frag} {F F' : Hp}
mutual
theorem Dn.mono (e : Ex F F') : ∀ {v : V} {d : D}, Dn K F v d → Dn K F' v d
  | _, _, .non => .non
  | _, _, .bl b => .bl b
  | _, _, .int i => .int i
  | _, _, .str x => .str x
  | _, _, .tup h r => .tup (ex_t e h) (DnL.mono e r)
  | _, _, .lst h r => .lst (e _ _ h) (DnL.mono e r)
  | _, _, .scr h => .scr (ex_l e h)
  | _, _, .ins k h r => .ins k (e _ _ h) (DnF.mono e r)
  | _, _, .typ n => .typ n
  | _, _, .adr a => .adr a
  | _, _, .dct h r => .dct (e _ _ h) (DnK.mono e r)
  | _, _, .xn0 a C => .xn0 a C
  | _, _, .xn1 h r => .xn1 (e _ _ h) (DnF.mono e r)
theorem DnL.mono (e : Ex F F') : ∀ {vs : List V} {ds : List D}, DnL K F vs ds → DnL K F' vs ds
  | _, _, .nil => .nil
  | _, _, .cons h r => .cons (Dn.mono e h) (DnL.mono e r)
theorem DnF.mono (e : Ex F F') : ∀ {vs : List (Str × V)} {ds : List (Str × D)}, DnF K F vs ds → DnF K F' vs ds
  | _, _, .nil => .nil
  | _, _, .cons h r => .cons (Dn.mono e h) (DnF.mono e r)
theorem DnK.mono (e : Ex F F') : ∀ {vs : List (Key × V)} {ds : List (Key × D)}, DnK K F vs ds → DnK K F' vs ds
  | _, _, .nil => .nil
  | _, _, .cons h r => .cons (Dn.mono e h) (DnK.mono e r)
end
theorem DnL.length : ∀ {vs : List V} {ds : List D}, DnL K F vs ds → vs.length = ds.length
  | _, _, .nil => rfl
  | _, _, .cons _ r => by simp [DnL.length r]
theorem DnL.get : ∀ {vs : List V} {ds : List D} {i : Nat} {d : D}, DnL K F vs ds → ds[i]? = some d → ∃ v, vs[i]? = some v ∧ Dn K F v d
  | _, _, _, _, .nil, h => by simp at h
  | _, _, 0, _, .cons h _, e => by simp at e; subst e; exact ⟨_, rfl, h⟩
  | _, _, i + 1, _, .cons _ r, e => by
    obtain ⟨v, h1, h2⟩ := DnL.get (i := i) r (by simpa using e)
    exact ⟨v, by simpa using h1, h2⟩
theorem DnL.append : ∀ {vs ws : List V} {ds es : List D}, DnL K F vs ds → DnL K F ws es → DnL K F (vs ++ ws) (ds ++ es)
  | _, _, _, _, .nil, q => q
  | _, _, _, _, .cons h r, q => .cons h (DnL.append r q)
theorem DnL.take : ∀ {vs : List V} {ds : List D} (n : Nat), DnL K F vs ds → DnL K F (vs.take n) (ds.take n)
  | _, _, 0, _ => by simpa using DnL.nil
  | _, _, _ + 1, .nil => .nil
  | _, _, n + 1, .cons h r => .cons h (DnL.take n r)
theorem DnL.drop : ∀ {vs : List V} {ds : List D} (n : Nat), DnL K F vs ds → DnL K F (vs.drop n) (ds.drop n)
  | _, _, 0, r => r
  | _, _, _ + 1, .nil => .nil
  | _, _, n + 1, .cons _ r => DnL.drop n r
theorem DnL.reverse : ∀ {vs : List V} {ds : List D}, DnL K F vs ds → DnL K F vs.reverse ds.reverse
  | _, _, .nil => .nil
  | _, _, .cons h r => by simpa using (DnL.reverse r).append (.cons h .nil)
theorem DnL.ints : ∀ ns : List Int, DnL K F (ns.map V.int) (ns.map D.int)
  | [] => .nil
  | n :: ns => .cons (.int n) (DnL.ints ns)
theorem DnF.length : ∀ {vs : List (Str × V)} {ds : List (Str × D)}, DnF K F vs ds → vs.length = ds.length
  | _, _, .nil => rfl
  | _, _, .cons _ r => by simp [DnF.length r]
theorem DnF.lookup {f : Str} : ∀ {vs : List (Str × V)} {ds : List (Str × D)} {d : D}, DnF K F vs ds → ds.lookup f = some d → ∃ v, vs.lookup f = some v ∧ Dn K F v d
  | _, _, _, .nil, h => by simp at h
  | (g, v) :: vs, (_, d') :: ds, d, .cons h r, e => by
    rw [List.lookup_cons] at e ⊢
    cases q : f == g with
    | true => rw [q] at e; simp at e; subst e; exact ⟨v, rfl, h⟩
    | false => rw [q] at e; exact DnF.lookup r e
theorem DnF.lookup_none {f : Str} : ∀ {vs : List (Str × V)} {ds : List (Str × D)}, DnF K F vs ds → ds.lookup f = none → vs.lookup f = none
  | _, _, .nil, _ => rfl
  | (g, v) :: vs, (_, d') :: ds, .cons h r, e => by
    rw [List.lookup_cons] at e ⊢
    cases q : f == g with
    | true => rw [q] at e; simp at e
    | false => rw [q] at e; exact DnF.lookup_none r e
end

/-! ### slots, cells, states -/
/-- where the cells lie: their objects' addresses -/
abbrev Mp := List (List Addr)
inductive Sn (K : PySem.W.Frag) (μ : Mp) (F : Hp) : V → S → Prop
  | d {v : V} {x : D} : Dn K F v x → Sn K μ F v (.d x)
  | c {n : Nat} {a : Addr} {l : List Addr} : μ[n]? = some (a :: l) → Sn K μ F (.ref a) (.c n)
  | i {n : Nat} {a b : Addr} {l : List Addr} : μ[n]? = some (a :: b :: l) → Sn K μ F (.ref b) (.i n)
abbrev SnL (K : PySem.W.Frag) (μ : Mp) (F : Hp) : List V → List S → Prop := Paired (Sn K μ F)
/-- the earlier state is kept: cells keep their places, what is frozen stays -/
structure Ext (μ : Mp) (F : Hp) (μ' : Mp) (F' : Hp) : Prop where
  m : ∀ (n : Nat) (a : List Addr), μ[n]? = some a → μ'[n]? = some a
  f : Ex F F'
theorem Ext.refl (μ : Mp) (F : Hp) : Ext μ F μ F := ⟨fun _ _ h => h, fun _ _ h => h⟩
theorem Ext.trans {μ μ1 μ2 : Mp} {F F1 F2 : Hp} (a : Ext μ F μ1 F1) (b : Ext μ1 F1 μ2 F2) : Ext μ F μ2 F2 := ⟨fun n x h => b.m n x (a.m n x h), ex_trans a.f b.f⟩
theorem Sn.mono {K : PySem.W.Frag} {μ μ' : Mp} {F F' : Hp} (e : Ext μ F μ' F') {v : V} {s : S} (h : Sn K μ F v s) : Sn K μ' F' v s := by
  cases h with
  | d h => exact .d (h.mono e.f)
  | c h => exact .c (e.m _ _ h)
  | i h => exact .i (e.m _ _ h)
theorem SnL.mono {K : PySem.W.Frag} {μ μ' : Mp} {F F' : Hp} (e : Ext μ F μ' F') {v : List V} {s : List S} (h : SnL K μ F v s) : SnL K μ' F' v s := Paired.mapP h fun _ _ q => q.mono e
def CellOk (K : PySem.W.Frag) (F H : Hp) (fp : List Addr) : Cell → Prop
  | .lst ds => ∃ a, fp = [a] ∧ F a = none ∧ ∃ xs, H a = some (.lst xs) ∧ DnL K F xs ds
  | .ins C gs => ∃ a, fp = [a] ∧ F a = none ∧ ∃ dx fs, H a = some (.ins C dx fs) ∧ DnF K F fs gs ∧ KC K C
  | .dk kvs => ∃ a, fp = [a] ∧ F a = none ∧ ∃ xs, H a = some (.dK xs) ∧ DnK K F xs kvs
  | .tp pre cs post => ∃ a b, fp = [a, b] ∧ a ≠ b ∧ F a = none ∧ F b = none ∧ ∃ xs ys, H a = some (.lst (xs ++ .ref b :: ys)) ∧ DnL K F xs pre ∧ DnL K F ys post ∧ H b = some (.lst (cs.map V.int))
  | .dead => True
theorem CellOk.kn {K : PySem.W.Frag} {F H : Hp} {fp : List Addr} {c : Cell} (h : CellOk K F H fp c) (hd : c ≠ .dead) : ∀ a ∈ fp, F a = none ∧ ∃ o, H a = some o := by
  cases c with
  | dead => exact absurd rfl hd
  | lst ds => obtain ⟨a, rfl, h0, xs, h1, _⟩ := h; intro b hb; simp at hb; subst hb; exact ⟨h0, _, h1⟩
  | ins C gs => obtain ⟨a, rfl, h0, dx, xs, h1, _⟩ := h; intro b hb; simp at hb; subst hb; exact ⟨h0, _, h1⟩
  | dk kvs => obtain ⟨a, rfl, h0, xs, h1, _⟩ := h; intro b hb; simp at hb; subst hb; exact ⟨h0, _, h1⟩
  | tp pre cs post =>
    obtain ⟨a, b, rfl, _, h0, h0', xs, ys, h1, _, _, h2⟩ := h
    intro c hc
    simp at hc
    rcases hc with rfl | rfl
    · exact ⟨h0, _, h1⟩
    · exact ⟨h0', _, h2⟩
/-- the state: F is what is frozen of the heap H, g the cells, at the addresses μ -/
structure Rp (K : PySem.W.Frag) (μ : Mp) (F H : Hp) (g : G) : Prop where
  ex : Ex F H
  len : μ.length = g.length
  ok : ∀ (n : Nat) fp c, μ[n]? = some fp → g[n]? = some c → CellOk K F H fp c
  dj : ∀ (n m : Nat) fp fq c d a, μ[n]? = some fp → μ[m]? = some fq → g[n]? = some c → g[m]? = some d → c ≠ .dead → d ≠ .dead → n ≠ m → a ∈ fp → a ∉ fq
/-- the slots -/
def Ro (K : PySem.W.Frag) (μ : Mp) (F : Hp) : Option V → Option S → Prop
  | _, none => True
  | some v, some s => Sn K μ F v s
  | none, some _ => False
abbrev Re (K : PySem.W.Frag) (μ : Mp) (F : Hp) : List (Option V) → Env → Prop := Paired (Ro K μ F)
theorem Re.mono {K : PySem.W.Frag} {μ μ' : Mp} {F F' : Hp} (e : Ext μ F μ' F') {σ : St} {ρ : Env} (h : Re K μ F σ ρ) : Re K μ' F' σ ρ := Paired.mapP h fun a b q => by
  cases b with
  | none => trivial
  | some b =>
    cases a with
    | none => exact q.elim
    | some a => exact Sn.mono e q
theorem Re.get {K : PySem.W.Frag} {μ : Mp} {F : Hp} : ∀ {σ : St} {ρ : Env} {i : Nat} {s : S}, Re K μ F σ ρ → ρ[i]? = some (some s) → ∃ v, σ[i]? = some (some v) ∧ Sn K μ F v s
  | _, _, _, _, .nil, h => by simp at h
  | _, _, 0, s, .cons (a := a) (b := b) r _, e => by
    simp at e
    subst e
    cases a with
    | none => exact r.elim
    | some v => exact ⟨v, rfl, r⟩
  | _, _, i + 1, s, .cons _ t, e => by
    obtain ⟨v, h1, h2⟩ := Re.get (i := i) t (by simpa using e)
    exact ⟨v, by simpa using h1, h2⟩
theorem Re.set {K : PySem.W.Frag} {μ : Mp} {F : Hp} {v : V} {s : S} (h : Sn K μ F v s) : ∀ {σ : St} {ρ : Env} (i : Nat), Re K μ F σ ρ → Re K μ F (σ.set i (some v)) (ρ.set i (some s))
  | _, _, _, .nil => .nil
  | _, _, 0, .cons _ t => .cons h t
  | _, _, i + 1, .cons r t => .cons r (Re.set h i t)
theorem Re.wipe1 {K : PySem.W.Frag} {μ : Mp} {F : Hp} : ∀ {σ : St} {ρ : Env} (i : Nat), Re K μ F σ ρ → Re K μ F (σ.set i none) (ρ.set i none)
  | _, _, _, .nil => .nil
  | _, _, 0, .cons _ t => .cons trivial t
  | _, _, i + 1, .cons r t => .cons r (Re.wipe1 i t)

/-! ### what is wanted of a result -/
/-- the own dict of an exception, with its fields -/
def Xd (K : PySem.W.Frag) (F : Hp) (d : Option Addr) (gs : List (Str × D)) : Prop :=
  (gs = [] ∧ d = none) ∨ ∃ dx fs, d = some dx ∧ F dx = some (.xd fs) ∧ DnF K F fs gs
theorem Xd.mono {K : PySem.W.Frag} {F F' : Hp} (e : Ex F F') {d : Option Addr} {gs : List (Str × D)} (h : Xd K F d gs) : Xd K F' d gs := by
  rcases h with h | ⟨dx, fs, h1, h2, h3⟩
  · exact .inl h
  · exact .inr ⟨dx, fs, h1, e _ _ h2, h3.mono e⟩
def Post {α β : Type} (rel : Mp → Hp → β → α → Prop) (K : PySem.W.Frag) (μ : Mp) (F : Hp) (E : XK) (r : R α) (Q : β → Hp → Prop) : Prop :=
  match r with
  | .ok a g => ∀ μ' F' H' v, Ext μ F μ' F' → Rp K μ' F' H' g → rel μ' F' v a → Q v H'
  | .exc C fs g => ∀ μ' F' H' d, Ext μ F μ' F' → Rp K μ' F' H' g → Xd K F' d fs → E (.ref C) d H'
  | .bad => False
theorem Post.ext {α β : Type} {rel : Mp → Hp → β → α → Prop} {K : PySem.W.Frag} {μ μ1 : Mp} {F F1 : Hp} {E : XK} {r : R α} {Q : β → Hp → Prop} (e : Ext μ F μ1 F1) (h : Post rel K μ F E r Q) : Post rel K μ1 F1 E r Q := by
  cases r with
  | ok a g => exact fun μ' F' H' v x => h μ' F' H' v (e.trans x)
  | exc C fs g => exact fun μ' F' H' d x => h μ' F' H' d (e.trans x)
  | bad => exact h
theorem Post.imp {α β : Type} {rel : Mp → Hp → β → α → Prop} {K : PySem.W.Frag} {μ : Mp} {F : Hp} {E : XK} {r : R α} {Q Q' : β → Hp → Prop} (h : Post rel K μ F E r Q) (q : ∀ v H, Q v H → Q' v H) : Post rel K μ F E r Q' := by
  cases r with
  | ok a g => exact fun μ' F' H' v x y z => q _ _ (h μ' F' H' v x y z)
  | exc C fs g => exact h
  | bad => exact h
/-- ahead of a step -/
theorem Post.step {α β γ δ : Type} {rel : Mp → Hp → β → α → Prop} {rel' : Mp → Hp → δ → γ → Prop} {K : PySem.W.Frag} {μ : Mp} {F : Hp} {E : XK} {r : R α} {k : α → G → R γ} {Q : δ → Hp → Prop}
    (h : Post rel' K μ F E (r.bind k) Q) : Post rel K μ F E r (fun v H1 => ∃ μ1 F1 a g1, Ext μ F μ1 F1 ∧ Rp K μ1 F1 H1 g1 ∧ rel μ1 F1 v a ∧ Post rel' K μ1 F1 E (k a g1) Q) := by
  cases r with
  | ok a g => exact fun μ' F' H' v x y z => ⟨μ', F', a, g, x, y, z, Post.ext x h⟩
  | exc C fs g => exact h
  | bad => exact h
theorem Post.ok {α β : Type} {rel : Mp → Hp → β → α → Prop} {K : PySem.W.Frag} {μ : Mp} {F H : Hp} {E : XK} {a : α} {g : G} {v : β} {Q : β → Hp → Prop} (h : Post rel K μ F E (.ok a g) Q) (r : Rp K μ F H g) (s : rel μ F v a) : Q v H := h μ F H v (.refl _ _) r s

abbrev relS (K : PySem.W.Frag) : Mp → Hp → V → S → Prop := fun μ F v s => Sn K μ F v s
abbrev relB : Mp → Hp → Bool → Bool → Prop := fun _ _ b c => b = c
abbrev relL (K : PySem.W.Frag) : Mp → Hp → List V → List S → Prop := fun μ F v s => SnL K μ F v s
abbrev XW (W : WX) (σ : St) : XK := fun c d H => W c d σ H
/-- the readings by functions -/
def tD (K : PySem.W.Frag) (W : WX) (f : DE S) : TE := fun σ H Q => ∃ μ F g ρ, Rp K μ F H g ∧ Re K μ F σ ρ ∧ Post (relS K) K μ F (XW W σ) (f ρ g) Q
def tDB (K : PySem.W.Frag) (W : WX) (f : DE Bool) : TT := fun σ H Q => ∃ μ F g ρ, Rp K μ F H g ∧ Re K μ F σ ρ ∧ Post relB K μ F (XW W σ) (f ρ g) Q
def tDL (K : PySem.W.Frag) (W : WX) (f : DE (List S)) : TA := fun σ H Q => ∃ μ F g ρ, Rp K μ F H g ∧ Re K μ F σ ρ ∧ Post (relL K) K μ F (XW W σ) (f ρ g) Q
def ED (X : Cx) (W : WX) (e : Expr) (f : DE S) : Prop := PE X e (tD X.K W f)
def TD (X : Cx) (W : WX) (e : Expr) (f : DE Bool) : Prop := PT X e (tDB X.K W f)
def WD (X : Cx) (W : WX) (e : Expr) (f : DE Bool) : Prop := PW X e (tDB X.K W f)
def LD (X : Cx) (W : WX) (es : List Expr) (f : DE (List S)) : Prop := PA X es (tDL X.K W f)
theorem pe_weak {X : Cx} {e : Expr} {t t' : TE} (h : PE X e t) (k : ∀ σ H Q, t' σ H Q → t σ H Q) : PE X e t' := ⟨fun pins s σ H Q I q => h.run pins s σ H Q I (k σ H Q q)⟩
theorem pt_weak {X : Cx} {e : Expr} {t t' : TT} (h : PT X e t) (k : ∀ σ H Q, t' σ H Q → t σ H Q) : PT X e t' := ⟨fun pins s σ H Q I q => h.run pins s σ H Q I (k σ H Q q)⟩
theorem pw_weak {X : Cx} {e : Expr} {t t' : TT} (h : PW X e t) (k : ∀ σ H Q, t' σ H Q → t σ H Q) : PW X e t' := ⟨fun w pins s σ H Q I q => h.run w pins s σ H Q I (k σ H Q q)⟩
theorem pa_weak {X : Cx} {e : List Expr} {t t' : TA} (h : PA X e t) (k : ∀ σ H Q, t' σ H Q → t σ H Q) : PA X e t' := ⟨fun p pins s σ H Q I q => h.run p pins s σ H Q I (k σ H Q q)⟩
theorem ps_weak {X : Cx} {e : Stmt} {t t' : TS} (h : PS X e t) (k : ∀ D σ H, t' D σ H → t D σ H) : PS X e t' := ⟨fun pins s σ H D I q => h.run pins s σ H D I (k D σ H q)⟩
theorem pss_weak {X : Cx} {e : List Stmt} {t t' : TS} (h : PSs X e t) (k : ∀ D σ H, t' D σ H → t D σ H) : PSs X e t' := ⟨fun pins s σ H D I q => h.run pins s σ H D I (k D σ H q)⟩

/-- the state behind a first operand a, the function of the rest being k -/
def Mid {α β γ δ : Type} (rel : Mp → Hp → β → α → Prop) (rel' : Mp → Hp → δ → γ → Prop) (K : PySem.W.Frag) (W : WX) (σ : St) (ρ : Env) (k : α → G → R γ) (Q : δ → Hp → Prop) (v : β) (H : Hp) : Prop :=
  ∃ μ F a g, Rp K μ F H g ∧ Re K μ F σ ρ ∧ rel μ F v a ∧ Post rel' K μ F (XW W σ) (k a g) Q
theorem tD.step {γ δ : Type} {rel' : Mp → Hp → δ → γ → Prop} {K : PySem.W.Frag} {W : WX} {σ : St} {ρ : Env} {f : DE S} {k : S → G → R γ} {Q : δ → Hp → Prop} {μ : Mp} {F H : Hp} {g : G}
    (r : Rp K μ F H g) (e : Re K μ F σ ρ) (h : Post rel' K μ F (XW W σ) ((f ρ g).bind k) Q) : tD K W f σ H (Mid (relS K) rel' K W σ ρ k Q) :=
  ⟨μ, F, g, ρ, r, e, h.step.imp fun v H1 ⟨μ1, F1, a, g1, x, y, z, p⟩ => ⟨μ1, F1, a, g1, y, e.mono x, z, p⟩⟩
theorem tDB.step {γ δ : Type} {rel' : Mp → Hp → δ → γ → Prop} {K : PySem.W.Frag} {W : WX} {σ : St} {ρ : Env} {f : DE Bool} {k : Bool → G → R γ} {Q : δ → Hp → Prop} {μ : Mp} {F H : Hp} {g : G}
    (r : Rp K μ F H g) (e : Re K μ F σ ρ) (h : Post rel' K μ F (XW W σ) ((f ρ g).bind k) Q) : tDB K W f σ H (Mid relB rel' K W σ ρ k Q) :=
  ⟨μ, F, g, ρ, r, e, h.step.imp fun v H1 ⟨μ1, F1, a, g1, x, y, z, p⟩ => ⟨μ1, F1, a, g1, y, e.mono x, z, p⟩⟩
theorem tDL.step {γ δ : Type} {rel' : Mp → Hp → δ → γ → Prop} {K : PySem.W.Frag} {W : WX} {σ : St} {ρ : Env} {f : DE (List S)} {k : List S → G → R γ} {Q : δ → Hp → Prop} {μ : Mp} {F H : Hp} {g : G}
    (r : Rp K μ F H g) (e : Re K μ F σ ρ) (h : Post rel' K μ F (XW W σ) ((f ρ g).bind k) Q) : tDL K W f σ H (Mid (relL K) rel' K W σ ρ k Q) :=
  ⟨μ, F, g, ρ, r, e, h.step.imp fun v H1 ⟨μ1, F1, a, g1, x, y, z, p⟩ => ⟨μ1, F1, a, g1, y, e.mono x, z, p⟩⟩
end DL
/-! DL2: expressions. -/
namespace DL
open PySem PySem.Spec PyProof.Rows L2

/-! ### reading a slot as data, the cells in it copied -/
def allD : List S → Option (List D)
  | [] => some []
  | .d x :: r => (allD r).map (x :: ·)
  | .c _ :: _ => none
  | .i _ :: _ => none
@[simp] def snapC : Option Cell → Option D
  | some (.lst ds) => some (.lst ds)
  | some (.ins C fs) => some (.ins C fs)
  | some (.dk kvs) => some (.dct kvs)
  | _ => none
@[simp] def snapI : Option Cell → Option D
  | some (.tp _ cs _) => some (.lst (cs.map D.int))
  | _ => none
def snap (g : G) : S → Option D
  | .d x => some x
  | .c n => snapC g[n]?
  | .i n => snapI g[n]?
@[simp] theorem allD_nil : allD [] = some [] := rfl
@[simp] theorem allD_cons (x : D) (r : List S) : allD (.d x :: r) = (allD r).map (x :: ·) := rfl
@[simp] theorem allD_map (xs : List D) : allD (xs.map S.d) = some xs := by
  induction xs with
  | nil => rfl
  | cons x xs ih => simp [ih]
@[simp] theorem snap_d (g : G) (x : D) : snap g (.d x) = some x := rfl
section
variable {K : PySem.W.Frag} {μ : Mp} {F H : Hp} {g : G}
theorem allD_ok : ∀ {vs : List V} {xs : List S} {ds : List D}, SnL K μ F vs xs → allD xs = some ds → DnL K F vs ds
  | _, _, _, .nil, h => by simp [allD] at h; subst h; exact .nil
  | _, .d x :: r, ds, .cons q t, h => by
    rw [allD_cons] at h
    cases e : allD r with
    | none => rw [e] at h; cases h
    | some es =>
      rw [e] at h
      have h' : x :: es = ds := Option.some.inj h
      subst h'
      cases q with
      | d q => exact .cons q (allD_ok t e)
  | _, .c _ :: _, _, .cons _ _, h => by cases h
  | _, .i _ :: _, _, .cons _ _, h => by cases h
theorem Rp.cell (r : Rp K μ F H g) {n : Nat} {fp : List Addr} (h : μ[n]? = some fp) : ∃ c, g[n]? = some c ∧ CellOk K F H fp c := by
  have hl : n < g.length := by rw [← r.len]; exact (List.getElem?_eq_some_iff.mp h).1
  exact ⟨g[n], List.getElem?_eq_getElem hl, r.ok n fp _ h (List.getElem?_eq_getElem hl)⟩
theorem Rp.fp (r : Rp K μ F H g) {n : Nat} {c : Cell} (h : g[n]? = some c) : ∃ fp, μ[n]? = some fp ∧ CellOk K F H fp c := by
  have hl : n < μ.length := by rw [r.len]; exact (List.getElem?_eq_some_iff.mp h).1
  exact ⟨μ[n], List.getElem?_eq_getElem hl, r.ok n _ c (List.getElem?_eq_getElem hl) h⟩
theorem snap_ok (r : Rp K μ F H g) {v : V} {s : S} {d : D} (h : Sn K μ F v s) (e : snap g s = some d) : Dn K H v d := by
  cases h with
  | d h =>
    simp at e; subst e
    exact h.mono r.ex
  | @c n a l h =>
    obtain ⟨c, q, ok⟩ := r.cell h
    have e' : snapC g[n]? = some d := e
    rw [q] at e'
    cases c with
    | dead => cases e'
    | tp => cases e'
    | lst xs => obtain ⟨b, z, _, ys, h1, h2⟩ := ok; cases z; cases e'; exact .lst h1 (h2.mono r.ex)
    | ins C fs => obtain ⟨b, z, _, dx, ys, h1, h2, h3⟩ := ok; cases z; cases e'; exact .ins h3 h1 (h2.mono r.ex)
    | dk kvs => obtain ⟨b, z, _, ys, h1, h2⟩ := ok; cases z; cases e'; exact .dct h1 (h2.mono r.ex)
  | @i n a b l h =>
    obtain ⟨c, q, ok⟩ := r.cell h
    have e' : snapI g[n]? = some d := e
    rw [q] at e'
    cases c with
    | dead => cases e'
    | lst => cases e'
    | ins => cases e'
    | dk => cases e'
    | tp pre cs post => obtain ⟨a', b', z, _, _, _, xs, ys, h1, h2, h3, h4⟩ := ok; cases z; cases e'; exact .lst h4 (DnL.ints _)
/-- a new frozen object -/
theorem Rp.fresh (r : Rp K μ F H g) {p : Addr} (h : H p = none) : F p = none := by
  cases q : F p with
  | none => rfl
  | some o => rw [r.ex p o q] at h; cases h
theorem Ext.new {p : Addr} {o : HO} (h : F p = none) : Ext μ F μ (upd F p o) := ⟨fun _ _ q => q, fun a u e => by rw [upd_ne (ne_of_none e h)]; exact e⟩
/-- the cell's objects and what it holds stay -/
theorem CellOk.mono {F' H' : Hp} {fp : List Addr} {c : Cell} (h : CellOk K F H fp c) (e : Ex F F') (hn : ∀ a ∈ fp, F a = none → F' a = none) (hH : ∀ a ∈ fp, ∀ o, H a = some o → H' a = some o) : CellOk K F' H' fp c := by
  cases c with
  | lst ds => obtain ⟨a, rfl, h0, xs, h1, h2⟩ := h; exact ⟨a, rfl, hn a (by simp) h0, xs, hH a (by simp) _ h1, h2.mono e⟩
  | ins C gs => obtain ⟨a, rfl, h0, dx, fs, h1, h2, h3⟩ := h; exact ⟨a, rfl, hn a (by simp) h0, dx, fs, hH a (by simp) _ h1, h2.mono e, h3⟩
  | dk kvs => obtain ⟨a, rfl, h0, xs, h1, h2⟩ := h; exact ⟨a, rfl, hn a (by simp) h0, xs, hH a (by simp) _ h1, h2.mono e⟩
  | tp pre cs post => obtain ⟨a, b, rfl, hne, h0, h0', xs, ys, h1, h2, h3, h4⟩ := h; exact ⟨a, b, rfl, hne, hn a (by simp) h0, hn b (by simp) h0', xs, ys, hH a (by simp) _ h1, h2.mono e, h3.mono e, hH b (by simp) _ h4⟩
  | dead => trivial
theorem dead_or (c : Cell) : c = .dead ∨ c ≠ .dead := by
  cases c <;> first | exact .inl rfl | exact .inr (by intro z; cases z)
theorem Rp.ne (r : Rp K μ F H g) {p : Addr} (h : H p = none) {n : Nat} {fp : List Addr} {c : Cell} (h1 : μ[n]? = some fp) (h2 : g[n]? = some c) (hd : c ≠ .dead) : ∀ a ∈ fp, a ≠ p := fun a ha z => by
  obtain ⟨_, o, q⟩ := (r.ok n fp c h1 h2).kn hd a ha
  rw [z, h] at q; cases q
theorem Rp.new (r : Rp K μ F H g) {p : Addr} {o : HO} (h : H p = none) : Rp K μ (upd F p o) (upd H p o) g := by
  have hF := r.fresh h
  refine ⟨fun a u e => ?_, r.len, fun n fp c h1 h2 => ?_, r.dj⟩
  · by_cases q : a = p
    · subst q; rw [upd_same] at e ⊢; exact e
    · rw [upd_ne q] at e ⊢; exact r.ex a u e
  · rcases dead_or c with hd | hd
    · subst hd; trivial
    have ha := r.ne h h1 h2 hd
    exact (r.ok n fp c h1 h2).mono (Ext.new (μ := μ) hF).f (fun a x z => by rw [upd_ne (ha a x)]; exact z) fun a x o z => by rw [upd_ne (ha a x)]; exact z
/-- a new object that is not frozen and no cell (an own dict, garbage) -/
theorem Rp.junk (r : Rp K μ F H g) {p : Addr} {o : HO} (h : H p = none) : Rp K μ F (upd H p o) g := by
  refine ⟨fun a u e => ?_, r.len, fun n fp c h1 h2 => ?_, r.dj⟩
  · rw [upd_ne (ne_of_none (r.ex a u e) h)]; exact r.ex a u e
  · rcases dead_or c with hd | hd
    · subst hd; trivial
    have ha := r.ne h h1 h2 hd
    exact (r.ok n fp c h1 h2).mono (fun _ _ h => h) (fun _ _ z => z) fun a x o z => by rw [upd_ne (ha a x)]; exact z
/-- a new cell -/
theorem Ext.push {fp : List Addr} : Ext μ F (μ ++ [fp]) F := ⟨fun n a h => by
  rw [List.getElem?_append_left]
  · exact h
  · exact (List.getElem?_eq_some_iff.mp h).1, fun _ _ h => h⟩
/-- a cell is added, the heap as it is -/
theorem Rp.add (r : Rp K μ F H g) {fp : List Addr} {c : Cell} (hc : CellOk K F H fp c) (hd : ∀ (n : Nat) fq d a, μ[n]? = some fq → g[n]? = some d → d ≠ .dead → a ∈ fp → a ∉ fq) : Rp K (μ ++ [fp]) F H (g ++ [c]) := by
  have cases' : ∀ {n : Nat} {fq : List Addr} {d : Cell}, (μ ++ [fp])[n]? = some fq → (g ++ [c])[n]? = some d → (μ[n]? = some fq ∧ g[n]? = some d ∧ n < μ.length) ∨ (n = μ.length ∧ fq = fp ∧ d = c) := fun {n fq d} h1 h2 => by
    by_cases q : n < μ.length
    · rw [List.getElem?_append_left q] at h1
      rw [List.getElem?_append_left (by rw [← r.len]; exact q)] at h2
      exact .inl ⟨h1, h2, q⟩
    · have q1 : n = μ.length := by
        have := (List.getElem?_eq_some_iff.mp h1).1
        simp at this; omega
      subst q1
      refine .inr ⟨rfl, by simpa using h1.symm, by rw [r.len] at h2; simpa using h2.symm⟩
  refine ⟨r.ex, by simp [r.len], fun n fq d h1 h2 => ?_, fun n m fq fr d d' a h1 h2 h3 h4 h5 h6 h7 h8 => ?_⟩
  · rcases cases' h1 h2 with ⟨q1, q2, _⟩ | ⟨_, rfl, rfl⟩
    · exact r.ok n fq d q1 q2
    · exact hc
  · rcases cases' h1 h3 with ⟨q1, q2, _⟩ | ⟨e1, rfl, rfl⟩
    · rcases cases' h2 h4 with ⟨q3, q4, _⟩ | ⟨_, rfl, rfl⟩
      · exact r.dj n m fq fr d d' a q1 q3 q2 q4 h5 h6 h7 h8
      · exact fun z => hd n fq d a q1 q2 h5 z h8
    · rcases cases' h2 h4 with ⟨q3, q4, _⟩ | ⟨e2, rfl, rfl⟩
      · exact hd m fr d' a q3 q4 h6 h8
      · exact absurd (e1.trans e2.symm) h7
theorem Rp.push (r : Rp K μ F H g) {p : Addr} {o : HO} {c : Cell} (h : H p = none) (hc : CellOk K F (upd H p o) [p] c) : Rp K (μ ++ [[p]]) F (upd H p o) (g ++ [c]) :=
  (r.junk (o := o) h).add hc fun n fq d a h1 h2 hd ha z => by
    simp at ha; subst ha
    exact r.ne h h1 h2 hd a z rfl
/-- an object of a cell is written -/
theorem Rp.write (r : Rp K μ F H g) {n : Nat} {fp : List Addr} {a : Addr} {o : HO} {c c0 : Cell} (hn : μ[n]? = some fp) (h0 : g[n]? = some c0) (ha : a ∈ fp) (hd : c0 ≠ .dead) (hc : CellOk K F (upd H a o) fp c) : Rp K μ F (upd H a o) (g.set n c) := by
  have hF : F a = none := ((r.ok n fp c0 hn h0).kn hd a ha).1
  have cs : ∀ {m : Nat} {d : Cell}, (g.set n c)[m]? = some d → (m = n ∧ d = c) ∨ (m ≠ n ∧ g[m]? = some d) := fun {m d} h => by
    by_cases q : m = n
    · subst q
      rw [List.getElem?_set_self (List.getElem?_eq_some_iff.mp h0).1] at h
      exact .inl ⟨rfl, (Option.some.inj h).symm⟩
    · rw [List.getElem?_set_ne (Ne.symm q)] at h
      exact .inr ⟨q, h⟩
  refine ⟨fun b u e => ?_, by simp [r.len], fun m fq d h1 h2 => ?_, fun m k fq fr d d' b h1 h2 h3 h4 h5 h6 h7 h8 => ?_⟩
  · rw [upd_ne (fun z => by rw [z, hF] at e; cases e)]; exact r.ex b u e
  · rcases cs h2 with ⟨rfl, rfl⟩ | ⟨q, h2⟩
    · rw [hn] at h1; cases h1; exact hc
    · rcases dead_or d with hd' | hd'
      · subst hd'; trivial
      exact (r.ok m fq d h1 h2).mono (fun _ _ h => h) (fun _ _ z => z) fun b hb u z => by
        have hne : b ≠ a := fun e => r.dj n m fp fq c0 d b hn h1 h0 h2 hd hd' (Ne.symm q) (by rw [e]; exact ha) hb
        rw [upd_ne hne]; exact z
  · rcases cs h3 with ⟨e3, _⟩ | ⟨q, h3'⟩
    · rcases cs h4 with ⟨e4, _⟩ | ⟨q', h4'⟩
      · exact absurd (e3.trans e4.symm) h7
      · exact r.dj m k fq fr c0 d' b h1 h2 (by rw [e3]; exact h0) h4' hd h6 h7 h8
    · rcases cs h4 with ⟨e4, _⟩ | ⟨q', h4'⟩
      · exact r.dj m k fq fr d c0 b h1 h2 h3' (by rw [e4]; exact h0) h5 hd h7 h8
      · exact r.dj m k fq fr d d' b h1 h2 h3' h4' h5 h6 h7 h8
/-- a cell goes -/
theorem Rp.kill (r : Rp K μ F H g) {n : Nat} : Rp K μ F H (g.set n .dead) := by
  have cs : ∀ {m : Nat} {d : Cell}, (g.set n .dead)[m]? = some d → d ≠ .dead → m ≠ n ∧ g[m]? = some d := fun {m d} h hd => by
    by_cases q : m = n
    · subst q
      have hl : m < g.length := by
        have := (List.getElem?_eq_some_iff.mp h).1
        simpa using this
      rw [List.getElem?_set_self hl] at h
      exact absurd (Option.some.inj h).symm hd
    · rw [List.getElem?_set_ne (Ne.symm q)] at h
      exact ⟨q, h⟩
  refine ⟨r.ex, by simp [r.len], fun m fq d h1 h2 => ?_, fun m k fq fr d d' b h1 h2 h3 h4 h5 h6 h7 h8 => r.dj m k fq fr d d' b h1 h2 (cs h3 h5).2 (cs h4 h6).2 h5 h6 h7 h8⟩
  rcases dead_or d with hd | hd
  · subst hd; trivial
  · exact r.ok m fq d h1 (cs h2 hd).2
/-- an untracked object is frozen -/
theorem Rp.frz (r : Rp K μ F H g) {a : Addr} {o : HO} (ho : H a = some o) (hF : F a = none) (hn : ∀ (n : Nat) fp c, μ[n]? = some fp → g[n]? = some c → c ≠ .dead → a ∉ fp) : Rp K μ (upd F a o) H g ∧ Ext μ F μ (upd F a o) := by
  refine ⟨⟨fun b u e => ?_, r.len, fun m fq d h1 h2 => ?_, r.dj⟩, Ext.new hF⟩
  · by_cases q : b = a
    · subst q; rw [upd_same] at e; cases e; exact ho
    · rw [upd_ne q] at e; exact r.ex b u e
  · rcases dead_or d with hd' | hd'
    · subst hd'; trivial
    exact (r.ok m fq d h1 h2).mono (Ext.new (μ := μ) hF).f (fun b hb z => by
      have hne : b ≠ a := fun e => hn m fq d h1 h2 hd' (by rw [← e]; exact hb)
      rw [upd_ne hne]; exact z) fun _ _ _ z => z
/-- a cell of one object is frozen: it goes, what was in it is data from now on -/
theorem Rp.freeze (r : Rp K μ F H g) {n : Nat} {a : Addr} {o : HO} {c0 : Cell} (hn : μ[n]? = some [a]) (h0 : g[n]? = some c0) (hd : c0 ≠ .dead) (ho : H a = some o) : Rp K μ (upd F a o) H (g.set n .dead) ∧ Ext μ F μ (upd F a o) :=
  (r.kill (n := n)).frz ho ((r.ok n [a] c0 hn h0).kn hd a (by simp)).1 fun m fp c h1 h2 h3 z => by
    by_cases q : m = n
    · subst q
      rw [List.getElem?_set_self (List.getElem?_eq_some_iff.mp h0).1] at h2
      exact h3 (Option.some.inj h2).symm
    · rw [List.getElem?_set_ne (Ne.symm q)] at h2
      exact r.dj m n fp [a] c c0 a h1 hn h2 h0 h3 hd q z (by simp)
end

/-! ### names, constants -/
section
variable {X : Cx} {W : WX} {e a b c : Expr} {pos : Pos}
@[simp] def varD (i : Nat) : DE S := fun ρ g => match ρ[i]? with
  | some (some s) => .ok s g
  | _ => .bad
theorem ed_var {i : Nat} (h : PE X e (tVar i)) : ED X W e (varD i) := pe_weak h fun σ H Q ⟨μ, F, g, ρ, r, re, q⟩ => by
  unfold varD at q
  cases h : ρ[i]? with
  | none => rw [h] at q; exact q.elim
  | some o =>
    rw [h] at q
    cases o with
    | none => exact q.elim
    | some s =>
      obtain ⟨v, h1, h2⟩ := re.get h
      exact ⟨v, h1, q.ok r h2⟩
@[simp] def cD (d : D) : DE S := fun _ g => .ok (.d d) g
theorem ed_c {v : V} {d : D} (hv : ∀ (K : PySem.W.Frag) (F : Hp), Dn K F v d) (h : PE X e (tC v)) : ED X W e (cD d) := pe_weak h fun σ H Q ⟨μ, F, g, ρ, r, re, q⟩ => Post.ok q r (.d (hv _ _))
theorem ed_int {i : Int} {j} : ED X W (.Constant (.int i) j pos) (cD (.int i)) := ed_c (fun _ _ => .int i) pe_int
theorem ed_bl {i : Bool} {j} : ED X W (.Constant (.bool i) j pos) (cD (.bl i)) := ed_c (fun _ _ => .bl i) pe_bl
theorem ed_non {j} : ED X W (.Constant .none j pos) (cD .non) := ed_c (fun _ _ => .non) pe_non
theorem ed_str {x : Str} {j} : ED X W (.Constant (.str x) j pos) (cD (.str x)) := ed_c (fun _ _ => .str x) pe_str
/-- a constant tuple of the written part -/
theorem ed_k {d : D} {p : Addr} (hv : ∀ (F : Hp), Dn X.K F (.ref p) d) (h : PE X e (tC (.ref p))) : ED X W e (cD d) := pe_weak h fun σ H Q ⟨μ, F, g, ρ, r, re, q⟩ => Post.ok q r (.d (hv _))

/-! ### two operands, by values -/
@[simp] def bin2 (f1 f2 : DE S) (op : S → S → G → R S) : DE S := fun ρ g => (f1 ρ g).bind fun x g1 => (f2 ρ g1).bind fun y g2 => op x y g2
/-- the operation on slots says what the rule r gives -/
def OpD (K : PySem.W.Frag) (r : R2) (op : S → S → G → R S) : Prop :=
  ∀ (μ : Mp) (F H : Hp) (g : G) (E : XK) (x y : V) (a b : S) (Q : VK), Rp K μ F H g → Sn K μ F x a → Sn K μ F y b → Post (relS K) K μ F E (op a b g) Q → r x y H Q
theorem ed_bin {r : R2} {op : S → S → G → R S} {f1 f2 : DE S} (he : ∀ ta tb, PE X a ta → PE X b tb → PE X e (tOp r ta tb)) (h1 : ED X W a f1) (h2 : ED X W b f2) (hop : OpD X.K r op) : ED X W e (bin2 f1 f2 op) :=
  pe_weak (he _ _ h1 h2) fun σ H Q ⟨μ, F, g, ρ, r, re, q⟩ => by
    obtain ⟨μ0, F0, g0, ρ0, r0, re0, p0⟩ := tD.step r re q
    refine ⟨μ0, F0, g0, ρ0, r0, re0, p0.imp fun x H1 ⟨μ1, F1, a1, g1, r1, re1, s1, p1⟩ => ?_⟩
    obtain ⟨μ2, F2, g2, ρ2, r2, re2, p2⟩ := tD.step r1 re1 p1
    refine ⟨μ1, F1, g1, ρ, r1, re1, ?_⟩
    exact p1.step.imp fun y H2 ⟨μ3, F3, b3, g3, x3, r3, s3, p3⟩ => hop μ3 F3 H2 g3 _ x y a1 b3 Q r3 (s1.mono x3) s3 p3
/-- on data -/
@[simp] def opD (f : D → D → Option D) : S → S → G → R S := fun a b g => match snap g a, snap g b with
  | some x, some y => match f x y with
    | some z => .ok (.d z) g
    | none => .bad
  | _, _ => .bad
theorem OpD.of {K : PySem.W.Frag} {r : R2} {f : D → D → Option D} (h : ∀ (F H : Hp) (x y : V) (a b z : D) (Q : VK), Ex F H → Dn K H x a → Dn K H y b → f a b = some z → (∀ v, Dn K F v z → Q v H) → r x y H Q) : OpD K r (opD f) := by
  intro μ F H g E x y a b Q rp sx sy p
  unfold opD at p
  cases e1 : snap g a with
  | none => rw [e1] at p; exact p.elim
  | some d =>
    cases e2 : snap g b with
    | none => rw [e1, e2] at p; exact p.elim
    | some d' =>
      rw [e1, e2] at p
      cases e3 : f d d' with
      | none => simp only [e3] at p; exact p.elim
      | some z =>
        simp only [e3] at p
        exact h F H x y d d' z Q rp.ex (snap_ok rp sx e1) (snap_ok rp sy e2) e3 fun v hv => Post.ok p rp (.d hv)
/-- .. that makes a new object -/
theorem OpD.ofN {K : PySem.W.Frag} {r : R2} {f : D → D → Option D} (h : ∀ (μ : Mp) (F H : Hp) (g : G) (x y : V) (a b z : D) (Q : VK), Rp K μ F H g → Dn K H x a → Dn K H y b → f a b = some z →
    (∀ μ' F' H' v, Ext μ F μ' F' → Rp K μ' F' H' g → Dn K F' v z → Q v H') → r x y H Q) : OpD K r (opD f) := by
  intro μ F H g E x y a b Q rp sx sy p
  unfold opD at p
  cases e1 : snap g a with
  | none => rw [e1] at p; exact p.elim
  | some d =>
    cases e2 : snap g b with
    | none => rw [e1, e2] at p; exact p.elim
    | some d' =>
      rw [e1, e2] at p
      cases e3 : f d d' with
      | none => simp only [e3] at p; exact p.elim
      | some z =>
        simp only [e3] at p
        exact h μ F H g x y d d' z Q rp (snap_ok rp sx e1) (snap_ok rp sy e2) e3 fun μ' F' H' v x y z => p μ' F' H' v x y (.d z)
/-! ### ints -/
def fI (f : Int → Int → D) : D → D → Option D
  | .int i, .int j => some (f i j)
  | _, _ => none
def fIC (c : Int → Int → Bool) (f : Int → Int → D) : D → D → Option D
  | .int i, .int j => if c i j then some (f i j) else none
  | _, _ => none
theorem opd_I0 {K : PySem.W.Frag} {g : Int → Int → V} {f : Int → Int → D} (hg : ∀ i j F, Dn K F (g i j) (f i j)) : OpD K (rI0 g) (opD (fI f)) := OpD.of fun F H x y a b z Q ex hx hy e q => by
  cases hx <;> cases hy <;> first | (cases e; done) | skip
  rename_i i j
  have e' : f i j = z := Option.some.inj e
  subst e'
  exact ⟨i, j, rfl, rfl, q _ (hg _ _ _)⟩
theorem opd_I {K : PySem.W.Frag} {C : Int → Int → Prop} {c : Int → Int → Bool} {g : Int → Int → V} {f : Int → Int → D} (hc : ∀ i j, c i j = true → C i j) (hg : ∀ i j F, Dn K F (g i j) (f i j)) : OpD K (rI C g) (opD (fIC c f)) := OpD.of fun F H x y a b z Q ex hx hy e q => by
  cases hx <;> cases hy <;> first | (cases e; done) | skip
  rename_i i j
  have e0 : (if c i j = true then some (f i j) else none) = some z := e
  by_cases h : c i j = true
  · rw [if_pos h] at e0
    have e' : f i j = z := Option.some.inj e0
    subst e'
    exact ⟨i, j, rfl, rfl, hc _ _ h, q _ (hg _ _ _)⟩
  · rw [if_neg h] at e0; cases e0
def addD := fI fun i j => .int (i + j)
def subD := fI fun i j => .int (i - j)
def lg (i : Int) : Nat := i.natAbs.log2
def mulD := fIC (fun i j => decide (lg i + lg j < 1000000)) fun i j => .int (i * j)
def divD := fIC (fun _ j => decide (j ≠ 0 ∧ lg j < 9000)) fun i j => .int (i.fdiv j)
def modD := fIC (fun _ j => decide (j ≠ 0)) fun i j => .int (i.fmod j)
def powD := fIC (fun i j => decide (0 ≤ j ∧ j ≤ 1000000 ∧ i.natAbs < 2 ^ 64)) fun i j => .int (i ^ j.toNat)
def ltD := fI fun i j => .bl (decide (i < j))
def leD := fI fun i j => .bl (decide (i ≤ j))
def gtD := fI fun i j => .bl (decide (j < i))
def geD := fI fun i j => .bl (decide (j ≤ i))
theorem opd_add {K : PySem.W.Frag} : OpD K (rI0 fun i j => .int (i + j)) (opD addD) := opd_I0 fun _ _ _ => .int _
theorem opd_sub {K : PySem.W.Frag} : OpD K (rI0 fun i j => .int (i - j)) (opD subD) := opd_I0 fun _ _ _ => .int _
theorem opd_mul {K : PySem.W.Frag} : OpD K (rI CMulW fun i j => .int (i * j)) (opD mulD) := opd_I (fun i j h => by have := of_decide_eq_true (show decide (lg i + lg j < 1000000) = true from h); exact this) fun _ _ _ => .int _
def CDivA (_ j : Int) : Prop := j ≠ 0 ∧ lg j < 9000
theorem op_fdivA : OpR X (binaryOp .FloorDiv) (rI CDivA fun i j => .int (i.fdiv j)) := opI fun i j _ _ _ _ _ hc q => floordiv_int hc.1 q (.inl (PyProof.noPylong_of_log2 hc.2))
theorem opd_div {K : PySem.W.Frag} : OpD K (rI CDivA fun i j => .int (i.fdiv j)) (opD divD) := opd_I (fun i j h => by have := of_decide_eq_true (show decide (j ≠ 0 ∧ lg j < 9000) = true from h); exact this) fun _ _ _ => .int _
theorem opd_mod {K : PySem.W.Frag} : OpD K (rI (fun _ j => j ≠ 0) fun i j => .int (i.fmod j)) (opD modD) := opd_I (fun i j h => by have := of_decide_eq_true (show decide (j ≠ 0) = true from h); exact this) fun _ _ _ => .int _
theorem opd_pow {K : PySem.W.Frag} : OpD K (rI CPow fun i j => .int (i ^ j.toNat)) (opD powD) := opd_I (fun i j h => by have := of_decide_eq_true (show decide (0 ≤ j ∧ j ≤ 1000000 ∧ i.natAbs < 2 ^ 64) = true from h); exact this) fun _ _ _ => .int _
theorem opd_lt {K : PySem.W.Frag} : OpD K (rI0 fun i j => .bl (decide (i < j))) (opD ltD) := opd_I0 fun _ _ _ => .bl _
theorem opd_le {K : PySem.W.Frag} : OpD K (rI0 fun i j => .bl (decide (i ≤ j))) (opD leD) := opd_I0 fun _ _ _ => .bl _
theorem opd_gt {K : PySem.W.Frag} : OpD K (rI0 fun i j => .bl (decide (j < i))) (opD gtD) := opd_I0 fun _ _ _ => .bl _
theorem opd_ge {K : PySem.W.Frag} : OpD K (rI0 fun i j => .bl (decide (j ≤ i))) (opD geD) := opd_I0 fun _ _ _ => .bl _
/-! ### == of data -/
mutual
def toPy : D → Option PyData
  | .non => some .none
  | .bl b => some (.bool b)
  | .int i => some (.int i)
  | .str x => some (.str x)
  | .tup ds => (toPyL ds).map .tuple
  | .lst ds => (toPyL ds).map .list
  | .scr ns => some (.list (ns.map .int))
  | .ins _ _ => none
  | .typ _ => none
  | .adr _ => none
  | .xn .. => none
  | .dct _ => none
def toPyL : List D → Option (List PyData)
  | [] => some []
  | d :: ds => match toPy d, toPyL ds with
    | some x, some xs => some (x :: xs)
    | _, _ => none
end
theorem dpAll_ints {K : PySem.W.Frag} {H : Hp} : ∀ ns : List Int, DpAll K H (ns.map V.int) (ns.map PyData.int)
  | [] => .nil
  | n :: ns => .cons (.int n) (dpAll_ints ns)
mutual
theorem toPy_ok {K : PySem.W.Frag} {H : Hp} : ∀ {d : D} {v : V} {p : PyData}, Dn K H v d → toPy d = some p → Dp K H v p
  | .non, _, _, .non, e => by simp [toPy] at e; subst e; exact .non
  | .bl b, _, _, .bl _, e => by simp [toPy] at e; subst e; exact .bl b
  | .int b, _, _, .int _, e => by simp [toPy] at e; subst e; exact .int b
  | .str b, _, _, .str _, e => by simp [toPy] at e; subst e; exact .str b
  | .tup ds, _, _, .tup h r, e => by
    simp only [toPy] at e
    cases q : toPyL ds with
    | none => rw [q] at e; cases e
    | some xs => rw [q] at e; simp at e; subst e; exact .tup h (toPyL_ok r q)
  | .lst ds, _, _, .lst h r, e => by
    simp only [toPy] at e
    cases q : toPyL ds with
    | none => rw [q] at e; cases e
    | some xs => rw [q] at e; simp at e; subst e; exact .lst (SqL.of h) (toPyL_ok r q)
  | .scr ns, _, _, .scr h, e => by
    simp [toPy] at e; subst e
    exact .lst h (dpAll_ints ns)
theorem toPyL_ok {K : PySem.W.Frag} {H : Hp} : ∀ {ds : List D} {vs : List V} {ps : List PyData}, DnL K H vs ds → toPyL ds = some ps → DpAll K H vs ps
  | [], _, _, .nil, e => by simp [toPyL] at e; subst e; exact .nil
  | d :: ds, _, _, .cons h r, e => by
    simp only [toPyL] at e
    cases q : toPy d with
    | none => rw [q] at e; cases e
    | some x =>
      cases q' : toPyL ds with
      | none => rw [q, q'] at e; cases e
      | some xs => rw [q, q'] at e; simp at e; subst e; exact .cons (toPy_ok h q) (toPyL_ok r q')
end
def eqF (d e : D) : Option Bool := match toPy d, toPy e with
  | some x, some y => if SeqAt.shaped x && SeqAt.shaped y then some (PyData.eqv x y) else none
  | _, _ => none
def eqD (d e : D) : Option D := (eqF d e).map D.bl
def neD (d e : D) : Option D := (eqF d e).map fun b => D.bl (!b)
theorem opd_eq {K : PySem.W.Frag} : OpD K (rEqD K) (opD eqD) := OpD.of fun F H x y a b z Q ex hx hy e q => by
  unfold eqD eqF at e
  cases h1 : toPy a with
  | none => rw [h1] at e; cases e
  | some p =>
    cases h2 : toPy b with
    | none => rw [h1, h2] at e; cases e
    | some p' =>
      rw [h1, h2] at e
      simp only at e
      split at e
      · rename_i hs
        obtain ⟨s1, s2⟩ := Bool.and_eq_true_iff.mp hs
        have e' : D.bl (PyData.eqv p p') = z := Option.some.inj e
        subst e'
        exact ⟨p, p', toPy_ok hx h1, toPy_ok hy h2, s1, s2, q _ (.bl _)⟩
      · cases e
theorem opd_ne {K : PySem.W.Frag} : OpD K (rNeD K) (opD neD) := OpD.of fun F H x y a b z Q ex hx hy e q => by
  unfold neD eqF at e
  cases h1 : toPy a with
  | none => rw [h1] at e; cases e
  | some p =>
    cases h2 : toPy b with
    | none => rw [h1, h2] at e; cases e
    | some p' =>
      rw [h1, h2] at e
      simp only at e
      split at e
      · rename_i hs
        obtain ⟨s1, s2⟩ := Bool.and_eq_true_iff.mp hs
        have e' : D.bl (!PyData.eqv p p') = z := Option.some.inj e
        subst e'
        exact ⟨p, p', toPy_ok hx h1, toPy_ok hy h2, s1, s2, q _ (.bl _)⟩
      · cases e
/-! ### the terms -/
variable {f1 f2 : DE S}
theorem ed_add (h1 : ED X W a f1) (h2 : ED X W b f2) : ED X W (.BinOp a .Add b pos) (bin2 f1 f2 (opD addD)) := ed_bin (fun _ _ p q => pe_op op_add p q) h1 h2 opd_add
theorem ed_sub (h1 : ED X W a f1) (h2 : ED X W b f2) : ED X W (.BinOp a .Sub b pos) (bin2 f1 f2 (opD subD)) := ed_bin (fun _ _ p q => pe_op op_sub p q) h1 h2 opd_sub
theorem ed_mul (h1 : ED X W a f1) (h2 : ED X W b f2) : ED X W (.BinOp a .Mult b pos) (bin2 f1 f2 (opD mulD)) := ed_bin (fun _ _ p q => pe_op op_mulW p q) h1 h2 opd_mul
theorem ed_div (h1 : ED X W a f1) (h2 : ED X W b f2) : ED X W (.BinOp a .FloorDiv b pos) (bin2 f1 f2 (opD divD)) := ed_bin (fun _ _ p q => pe_op op_fdivA p q) h1 h2 opd_div
theorem ed_mod (h1 : ED X W a f1) (h2 : ED X W b f2) : ED X W (.BinOp a .Mod b pos) (bin2 f1 f2 (opD modD)) := ed_bin (fun _ _ p q => pe_op op_modN p q) h1 h2 opd_mod
theorem ed_pow (h1 : ED X W a f1) (h2 : ED X W b f2) : ED X W (.BinOp a .Pow b pos) (bin2 f1 f2 (opD powD)) := ed_bin (fun _ _ p q => pe_op op_pow p q) h1 h2 opd_pow
theorem ed_cmp {op : CmpOp} {r : R2} {o : S → S → G → R S} (ho : OpR X (compareOp op) r) (hop : OpD X.K r o) (h1 : ED X W a f1) (h2 : ED X W b f2) (hm : behindInMarks op b = false) : ED X W (.Compare a [op] [b] pos) (bin2 f1 f2 o) :=
  ed_bin (fun _ _ p q => pe_cmpR ho p q hm) h1 h2 hop
/-- a test, from what a value computes: a flag -/
@[simp] def asB (f : DE S) : DE Bool := fun ρ g => (f ρ g).bind fun s g1 => match s with
  | .d (.bl b) => .ok b g1
  | _ => .bad
theorem asB_post {K : PySem.W.Frag} {μ : Mp} {F : Hp} {E : XK} {r : R S} {Q : Bool → Hp → Prop} (h : Post relB K μ F E (r.bind fun s g1 => match s with
  | .d (.bl b) => .ok b g1
  | _ => .bad) Q) : Post (relS K) K μ F E r (fun x H' => ∃ k, x = .bl k ∧ Q k H') := by
  cases r with
  | exc C fs g => exact h
  | bad => exact h
  | ok s g =>
    cases s with
    | c n => exact h.elim
    | i n => exact h.elim
    | d d =>
      cases d <;> first | exact False.elim h | skip
      rename_i b
      intro μ' F' H' v x y z
      cases z with
      | d z => cases z; exact ⟨b, rfl, h μ' F' H' b x y rfl⟩
theorem td_cmp {op : CmpOp} {r : R2} {o : S → S → G → R S} (ho : OpR X (compareOp op) r) (hop : OpD X.K r o) (h1 : ED X W a f1) (h2 : ED X W b f2) (hm : behindInMarks op b = false) : TD X W (.Compare a [op] [b] pos) (asB (bin2 f1 f2 o)) :=
  pt_weak (pt_cmpR ho h1 h2 hm) fun σ H Q ⟨μ, F, g, ρ, r, re, q⟩ => by
    have q' := asB_post q
    obtain ⟨μ0, F0, g0, ρ0, r0, re0, p0⟩ := tD.step r re q'
    refine ⟨μ0, F0, g0, ρ0, r0, re0, p0.imp fun x H1 ⟨μ1, F1, a1, g1, r1, re1, s1, p1⟩ => ?_⟩
    refine ⟨μ1, F1, g1, ρ, r1, re1, ?_⟩
    exact p1.step.imp fun y H2 ⟨μ3, F3, b3, g3, x3, r3, s3, p3⟩ => hop μ3 F3 H2 g3 _ x y a1 b3 _ r3 (s1.mono x3) s3 p3
theorem td_val {f : DE S} (h : ED X W e f) (he : ∀ whole, isTrue e X.env whole = (do let v ← whole; standAt e.pos; holding [v] (truthy v)) := by intro _; rfl) : TD X W e (asB f) :=
  pt_weak (pt_val h he) fun σ H Q ⟨μ, F, g, ρ, r, re, q⟩ => ⟨μ, F, g, ρ, r, re, asB_post q⟩
/-! ### and, or, not -/
variable {t1 t2 : DE Bool} {rest : List Expr}
@[simp] def andB (t u : DE Bool) : DE Bool := fun ρ g => (t ρ g).bind fun b g1 => if b then u ρ g1 else .ok false g1
@[simp] def orB (t u : DE Bool) : DE Bool := fun ρ g => (t ρ g).bind fun b g1 => if b then .ok true g1 else u ρ g1
@[simp] def notB (t : DE Bool) : DE Bool := fun ρ g => (t ρ g).bind fun b g1 => .ok (!b) g1
theorem wd_and1 (h : TD X W a t1) : WD X W (.BoolOp .And [a] pos) t1 := pw_and1 h
theorem wd_or1 (h : TD X W a t1) : WD X W (.BoolOp .Or [a] pos) t1 := pw_or1 h
theorem wd_and (h : TD X W a t1) (h2 : WD X W (.BoolOp .And (b :: rest) pos) t2) : WD X W (.BoolOp .And (a :: b :: rest) pos) (andB t1 t2) :=
  pw_weak (pw_and h h2) fun σ H Q ⟨μ, F, g, ρ, r, re, q⟩ => by
    obtain ⟨μ0, F0, g0, ρ0, r0, re0, p0⟩ := tDB.step r re q
    refine ⟨μ0, F0, g0, ρ0, r0, re0, p0.imp fun x H1 ⟨μ1, F1, a1, g1, r1, re1, s1, p1⟩ => ?_⟩
    cases s1
    cases x with
    | true => exact ⟨μ1, F1, g1, ρ, r1, re1, p1⟩
    | false => exact Post.ok p1 r1 rfl
theorem wd_or (h : TD X W a t1) (h2 : WD X W (.BoolOp .Or (b :: rest) pos) t2) : WD X W (.BoolOp .Or (a :: b :: rest) pos) (orB t1 t2) :=
  pw_weak (pw_or h h2) fun σ H Q ⟨μ, F, g, ρ, r, re, q⟩ => by
    obtain ⟨μ0, F0, g0, ρ0, r0, re0, p0⟩ := tDB.step r re q
    refine ⟨μ0, F0, g0, ρ0, r0, re0, p0.imp fun x H1 ⟨μ1, F1, a1, g1, r1, re1, s1, p1⟩ => ?_⟩
    cases s1
    cases x with
    | false => exact ⟨μ1, F1, g1, ρ, r1, re1, p1⟩
    | true => exact Post.ok p1 r1 rfl
theorem td_w (h : WD X W a t1) : TD X W a t1 := PW.pt h
theorem td_not (h : TD X W a t1) : TD X W (.UnaryOp .Not a pos) (notB t1) :=
  pt_weak (pt_not h) fun σ H Q ⟨μ, F, g, ρ, r, re, q⟩ => by
    obtain ⟨μ0, F0, g0, ρ0, r0, re0, p0⟩ := tDB.step r re q
    refine ⟨μ0, F0, g0, ρ0, r0, re0, p0.imp fun x H1 ⟨μ1, F1, a1, g1, r1, re1, s1, p1⟩ => ?_⟩
    cases s1
    exact Post.ok p1 r1 rfl
/-- as values -/
@[simp] def andV (f1 f2 : DE S) : DE S := fun ρ g => (f1 ρ g).bind fun s g1 => match s with
  | .d (.bl true) => f2 ρ g1
  | .d (.bl false) => .ok (.d (.bl false)) g1
  | _ => .bad
@[simp] def orV (f1 f2 : DE S) : DE S := fun ρ g => (f1 ρ g).bind fun s g1 => match s with
  | .d (.bl true) => .ok (.d (.bl true)) g1
  | .d (.bl false) => f2 ρ g1
  | _ => .bad
@[simp] def notV (f : DE S) : DE S := fun ρ g => (f ρ g).bind fun s g1 => match s with
  | .d (.bl b) => .ok (.d (.bl (!b))) g1
  | _ => .bad
theorem ed_one {op} (h : ED X W a f1) : ED X W (.BoolOp op [a] pos) f1 := pe_one h
theorem ed_and (h1 : ED X W a f1) (h2 : ED X W (.BoolOp .And (b :: rest) pos) f2) : ED X W (.BoolOp .And (a :: b :: rest) pos) (andV f1 f2) :=
  pe_weak (pe_and h1 h2) fun σ H Q ⟨μ, F, g, ρ, r, re, q⟩ => by
    obtain ⟨μ0, F0, g0, ρ0, r0, re0, p0⟩ := tD.step r re q
    refine ⟨μ0, F0, g0, ρ0, r0, re0, p0.imp fun x H1 ⟨μ1, F1, a1, g1, r1, re1, s1, p1⟩ => ?_⟩
    cases a1 with
    | c n => exact p1.elim
    | i n => exact p1.elim
    | d d =>
      cases d <;> first | exact False.elim p1 | skip
      rename_i b
      cases s1 with
      | d s1 =>
        cases s1
        refine ⟨b, rfl, ?_⟩
        cases b with
        | true => exact ⟨μ1, F1, g1, ρ, r1, re1, p1⟩
        | false => exact Post.ok p1 r1 (.d (.bl _))
theorem ed_or (h1 : ED X W a f1) (h2 : ED X W (.BoolOp .Or (b :: rest) pos) f2) : ED X W (.BoolOp .Or (a :: b :: rest) pos) (orV f1 f2) :=
  pe_weak (pe_or h1 h2) fun σ H Q ⟨μ, F, g, ρ, r, re, q⟩ => by
    obtain ⟨μ0, F0, g0, ρ0, r0, re0, p0⟩ := tD.step r re q
    refine ⟨μ0, F0, g0, ρ0, r0, re0, p0.imp fun x H1 ⟨μ1, F1, a1, g1, r1, re1, s1, p1⟩ => ?_⟩
    cases a1 with
    | c n => exact p1.elim
    | i n => exact p1.elim
    | d d =>
      cases d <;> first | exact False.elim p1 | skip
      rename_i b
      cases s1 with
      | d s1 =>
        cases s1
        refine ⟨b, rfl, ?_⟩
        cases b with
        | false => exact ⟨μ1, F1, g1, ρ, r1, re1, p1⟩
        | true => exact Post.ok p1 r1 (.d (.bl _))
theorem ed_not (h1 : ED X W a f1) : ED X W (.UnaryOp .Not a pos) (notV f1) :=
  pe_weak (pe_not h1) fun σ H Q ⟨μ, F, g, ρ, r, re, q⟩ => by
    obtain ⟨μ0, F0, g0, ρ0, r0, re0, p0⟩ := tD.step r re q
    refine ⟨μ0, F0, g0, ρ0, r0, re0, p0.imp fun x H1 ⟨μ1, F1, a1, g1, r1, re1, s1, p1⟩ => ?_⟩
    cases a1 with
    | c n => exact p1.elim
    | i n => exact p1.elim
    | d d =>
      cases d <;> first | exact False.elim p1 | skip
      rename_i b
      cases s1 with
      | d s1 =>
        cases s1
        exact ⟨b, rfl, Post.ok p1 r1 (.d (.bl _))⟩
@[simp] def ifD (t : DE Bool) (f1 f2 : DE S) : DE S := fun ρ g => (t ρ g).bind fun b g1 => if b then f1 ρ g1 else f2 ρ g1
theorem ed_if (hc : TD X W c t1) (h1 : ED X W a f1) (h2 : ED X W b f2) : ED X W (.IfExp c a b pos) (ifD t1 f1 f2) :=
  pe_weak (pe_ifExp hc h1 h2) fun σ H Q ⟨μ, F, g, ρ, r, re, q⟩ => by
    obtain ⟨μ0, F0, g0, ρ0, r0, re0, p0⟩ := tDB.step r re q
    refine ⟨μ0, F0, g0, ρ0, r0, re0, p0.imp fun x H1 ⟨μ1, F1, a1, g1, r1, re1, s1, p1⟩ => ?_⟩
    cases s1
    cases x with
    | true => exact ⟨μ1, F1, g1, ρ, r1, re1, p1⟩
    | false => exact ⟨μ1, F1, g1, ρ, r1, re1, p1⟩
/-! ### argument lists -/
variable {es : List Expr} {fl : DE (List S)}
@[simp] def nilL : DE (List S) := fun _ g => .ok [] g
@[simp] def consL (f : DE S) (fl : DE (List S)) : DE (List S) := fun ρ g => (f ρ g).bind fun x g1 => (fl ρ g1).bind fun xs g2 => .ok (x :: xs) g2
theorem ld_nil : LD X W [] nilL := pa_weak pa_nil fun σ H Q ⟨μ, F, g, ρ, r, re, q⟩ => Post.ok q r .nil
theorem ld_cons (h : ED X W e f1) (hr : LD X W es fl) (hs : starEach (e :: es) X.env = (false, eval e X.env) :: starEach es X.env := by rfl) : LD X W (e :: es) (consL f1 fl) :=
  pa_weak (pa_cons h hr hs) fun σ H Q ⟨μ, F, g, ρ, r, re, q⟩ => by
    obtain ⟨μ0, F0, g0, ρ0, r0, re0, p0⟩ := tD.step r re q
    refine ⟨μ0, F0, g0, ρ0, r0, re0, p0.imp fun x H1 ⟨μ1, F1, a1, g1, r1, re1, s1, p1⟩ => ?_⟩
    refine ⟨μ1, F1, g1, ρ, r1, re1, ?_⟩
    exact p1.step.imp fun y H2 ⟨μ3, F3, b3, g3, x3, r3, s3, p3⟩ => Post.ok p3 r3 (.cons (s1.mono x3) s3)
/-! ### displays -/
@[simp] def tupD (fl : DE (List S)) : DE S := fun ρ g => (fl ρ g).bind fun xs g1 => match allD xs with
  | some ds => if ds.length ≤ 1000 then .ok (.d (.tup ds)) g1 else .bad
  | none => .bad
theorem le1000 {n : Nat} (h : n ≤ 1000) : n ≤ sizeLine := Nat.le_trans h (by decide)
theorem ed_tup {x1} (h : LD X W es fl) : ED X W (.Tuple es x1 pos) (tupD fl) :=
  pe_weak (pe_tup h) fun σ H Q ⟨μ, F, g, ρ, r, re, q⟩ => by
    obtain ⟨μ0, F0, g0, ρ0, r0, re0, p0⟩ := tDL.step r re q
    refine ⟨μ0, F0, g0, ρ0, r0, re0, p0.imp fun x H1 ⟨μ1, F1, a1, g1, r1, re1, s1, p1⟩ => ?_⟩
    cases e1 : allD a1 with
    | none => simp only [e1] at p1; exact p1.elim
    | some ds =>
      simp only [e1] at p1
      by_cases hl : ds.length ≤ 1000
      · rw [if_pos hl] at p1
        have d1 := allD_ok s1 e1
        refine ⟨by rw [d1.length]; exact le1000 hl, fun p hp => ?_⟩
        exact p1 μ1 _ _ _ (Ext.new (r1.fresh hp)) (r1.new hp) (.d (.tup (SqT.of upd_same) (d1.mono (Ext.new (μ := μ1) (r1.fresh hp)).f)))
      · rw [if_neg hl] at p1; exact p1.elim
/-- a list that is not written any more -/
@[simp] def lstD (fl : DE (List S)) : DE S := fun ρ g => (fl ρ g).bind fun xs g1 => match allD xs with
  | some ds => if ds.length ≤ 1000 then .ok (.d (.lst ds)) g1 else .bad
  | none => .bad
theorem ed_lst (h : LD X W es fl) : ED X W (.List es pos) (lstD fl) :=
  pe_weak (pe_lst h) fun σ H Q ⟨μ, F, g, ρ, r, re, q⟩ => by
    obtain ⟨μ0, F0, g0, ρ0, r0, re0, p0⟩ := tDL.step r re q
    refine ⟨μ0, F0, g0, ρ0, r0, re0, p0.imp fun x H1 ⟨μ1, F1, a1, g1, r1, re1, s1, p1⟩ => ?_⟩
    cases e1 : allD a1 with
    | none => simp only [e1] at p1; exact p1.elim
    | some ds =>
      simp only [e1] at p1
      by_cases hl : ds.length ≤ 1000
      · rw [if_pos hl] at p1
        have d1 := allD_ok s1 e1
        refine ⟨by rw [d1.length]; exact le1000 hl, fun p hp => ?_⟩
        exact p1 μ1 _ _ _ (Ext.new (r1.fresh hp)) (r1.new hp) (.d (.lst upd_same (d1.mono (Ext.new (μ := μ1) (r1.fresh hp)).f)))
      · rw [if_neg hl] at p1; exact p1.elim
/-- a list that is a new cell -/
@[simp] def celD (fl : DE (List S)) : DE S := fun ρ g => (fl ρ g).bind fun xs g1 => match allD xs with
  | some ds => if ds.length ≤ 1000 then .ok (.c g1.length) (g1 ++ [.lst ds]) else .bad
  | none => .bad
theorem ed_cel (h : LD X W es fl) : ED X W (.List es pos) (celD fl) :=
  pe_weak (pe_lst h) fun σ H Q ⟨μ, F, g, ρ, r, re, q⟩ => by
    obtain ⟨μ0, F0, g0, ρ0, r0, re0, p0⟩ := tDL.step r re q
    refine ⟨μ0, F0, g0, ρ0, r0, re0, p0.imp fun x H1 ⟨μ1, F1, a1, g1, r1, re1, s1, p1⟩ => ?_⟩
    cases e1 : allD a1 with
    | none => simp only [e1] at p1; exact p1.elim
    | some ds =>
      simp only [e1] at p1
      by_cases hl : ds.length ≤ 1000
      · rw [if_pos hl] at p1
        have d1 := allD_ok s1 e1
        refine ⟨by rw [d1.length]; exact le1000 hl, fun p hp => ?_⟩
        exact p1 (μ1 ++ [[p]]) F1 _ _ Ext.push (r1.push hp ⟨p, rfl, r1.fresh hp, _, upd_same, d1⟩) (.c (l := []) (by rw [← r1.len]; simp))
      · rw [if_neg hl] at p1; exact p1.elim
/-- freezing what a cell holds -/
@[simp] def frzD (f : DE S) : DE S := fun ρ g => (f ρ g).bind fun s g1 => match s with
  | .d x => .ok (.d x) g1
  | .c n => match snapC g1[n]? with
    | some x => .ok (.d x) (g1.set n .dead)
    | none => .bad
  | .i _ => .bad
theorem snapC_frz {K : PySem.W.Frag} {μ : Mp} {F H : Hp} {g : G} (r : Rp K μ F H g) {v : V} {n : Nat} {x : D} (h : Sn K μ F v (.c n)) (e : snapC g[n]? = some x) : ∃ F', Ext μ F μ F' ∧ Rp K μ F' H (g.set n .dead) ∧ Dn K F' v x := by
  cases h with
  | @c _ a l h =>
    obtain ⟨c, q, ok⟩ := r.cell h
    rw [q] at e
    cases c with
    | dead => cases e
    | tp => cases e
    | lst xs =>
      obtain ⟨b, z, _, ys, h1, h2⟩ := ok; cases z; cases e
      obtain ⟨r', x'⟩ := r.freeze h q (by intro z; cases z) h1
      exact ⟨_, x', r', .lst upd_same (h2.mono x'.f)⟩
    | ins C fs =>
      obtain ⟨b, z, _, dx, ys, h1, h2, h3⟩ := ok; cases z; cases e
      obtain ⟨r', x'⟩ := r.freeze h q (by intro z; cases z) h1
      exact ⟨_, x', r', .ins h3 upd_same (h2.mono x'.f)⟩
    | dk kvs =>
      obtain ⟨b, z, _, ys, h1, h2⟩ := ok; cases z; cases e
      obtain ⟨r', x'⟩ := r.freeze h q (by intro z; cases z) h1
      exact ⟨_, x', r', .dct upd_same (h2.mono x'.f)⟩
theorem ed_frz {f : DE S} (h : ED X W e f) : ED X W e (frzD f) := pe_weak h fun σ H Q ⟨μ, F, g, ρ, r, re, q⟩ => by
  obtain ⟨μ0, F0, g0, ρ0, r0, re0, p0⟩ := tD.step r re q
  refine ⟨μ0, F0, g0, ρ0, r0, re0, p0.imp fun x H1 ⟨μ1, F1, a1, g1, r1, re1, s1, p1⟩ => ?_⟩
  cases a1 with
  | d d => exact Post.ok p1 r1 s1
  | i n => exact p1.elim
  | c n =>
    cases e1 : snapC g1[n]? with
    | none => simp only [e1] at p1; exact p1.elim
    | some d =>
      simp only [e1] at p1
      obtain ⟨F', x', r', d'⟩ := snapC_frz r1 s1 e1
      exact p1 μ1 F' H1 x x' r' (.d d')
end
end DL
/-! DL3: statements, loops, calls. -/
namespace DL
open PySem PySem.Spec PyProof.Rows L2

/-- what a statement comes to -/
inductive O where
  | nx (ρ : Env) (g : G) | rt (s : S) (g : G) | bk (ρ : Env) (g : G) | ct (ρ : Env) (g : G) | exc (C : Addr) (fs : List (Str × D)) (ρ : Env) (g : G) | bad
abbrev DS := Env → G → O
def O.thn (o : O) (k : DS) : O := match o with
  | .nx ρ g => k ρ g
  | .rt s g => .rt s g
  | .bk ρ g => .bk ρ g
  | .ct ρ g => .ct ρ g
  | .exc C fs ρ g => .exc C fs ρ g
  | .bad => .bad
def R.toO {α : Type} (r : R α) (ρ : Env) (k : α → G → O) : O := match r with
  | .ok a g => k a g
  | .exc C fs g => .exc C fs ρ g
  | .bad => .bad
@[simp] theorem O.thn_nx (ρ g) (k : DS) : (O.nx ρ g).thn k = k ρ g := rfl
@[simp] theorem O.thn_rt (s g) (k : DS) : (O.rt s g).thn k = .rt s g := rfl
@[simp] theorem O.thn_bk (ρ g) (k : DS) : (O.bk ρ g).thn k = .bk ρ g := rfl
@[simp] theorem O.thn_ct (ρ g) (k : DS) : (O.ct ρ g).thn k = .ct ρ g := rfl
@[simp] theorem O.thn_exc (C fs ρ g) (k : DS) : (O.exc C fs ρ g).thn k = .exc C fs ρ g := rfl
@[simp] theorem O.thn_bad (k : DS) : O.bad.thn k = .bad := rfl
@[simp] theorem R.toO_ok {α : Type} (a : α) (g ρ) (k : α → G → O) : (R.ok a g).toO ρ k = k a g := rfl
@[simp] theorem R.toO_exc {α : Type} (C fs g ρ) (k : α → G → O) : (R.exc C fs g : R α).toO ρ k = .exc C fs ρ g := rfl
@[simp] theorem R.toO_bad {α : Type} (ρ) (k : α → G → O) : (R.bad : R α).toO ρ k = .bad := rfl

def PostS (K : PySem.W.Frag) (μ : Mp) (F : Hp) (W : WX) (D : Ends) (o : O) : Prop := match o with
  | .nx ρ g => ∀ μ' F' H' σ', Ext μ F μ' F' → Rp K μ' F' H' g → Re K μ' F' σ' ρ → D.nx σ' H'
  | .rt s g => ∀ μ' F' H' v, Ext μ F μ' F' → Rp K μ' F' H' g → Sn K μ' F' v s → D.rt v H'
  | .bk ρ g => ∀ μ' F' H' σ', Ext μ F μ' F' → Rp K μ' F' H' g → Re K μ' F' σ' ρ → D.bk σ' H'
  | .ct ρ g => ∀ μ' F' H' σ', Ext μ F μ' F' → Rp K μ' F' H' g → Re K μ' F' σ' ρ → D.ct σ' H'
  | .exc C fs ρ g => ∀ μ' F' H' σ' d, Ext μ F μ' F' → Rp K μ' F' H' g → Re K μ' F' σ' ρ → Xd K F' d fs → W (.ref C) d σ' H'
  | .bad => False
theorem PostS.ext {K : PySem.W.Frag} {μ μ1 : Mp} {F F1 : Hp} {W : WX} {D : Ends} {o : O} (e : Ext μ F μ1 F1) (h : PostS K μ F W D o) : PostS K μ1 F1 W D o := by
  cases o with
  | nx ρ g => exact fun μ' F' H' σ' x => h μ' F' H' σ' (e.trans x)
  | rt s g => exact fun μ' F' H' σ' x => h μ' F' H' σ' (e.trans x)
  | bk ρ g => exact fun μ' F' H' σ' x => h μ' F' H' σ' (e.trans x)
  | ct ρ g => exact fun μ' F' H' σ' x => h μ' F' H' σ' (e.trans x)
  | exc C fs ρ g => exact fun μ' F' H' σ' d x => h μ' F' H' σ' d (e.trans x)
  | bad => exact h
theorem PostS.nx {K : PySem.W.Frag} {μ : Mp} {F H : Hp} {W : WX} {D : Ends} {ρ : Env} {g : G} {σ : St} (h : PostS K μ F W D (.nx ρ g)) (r : Rp K μ F H g) (e : Re K μ F σ ρ) : D.nx σ H := h μ F H σ (.refl _ _) r e
def tS (K : PySem.W.Frag) (W : WX) (f : DS) : TS := fun D σ H => ∃ μ F g ρ, Rp K μ F H g ∧ Re K μ F σ ρ ∧ PostS K μ F W D (f ρ g)
def SD (X : Cx) (W : WX) (st : Stmt) (f : DS) : Prop := PS X st (tS X.K W f)
def SDs (X : Cx) (W : WX) (sts : List Stmt) (f : DS) : Prop := PSs X sts (tS X.K W f)
/-- behind an expression of a statement -/
def MidS {α β : Type} (rel : Mp → Hp → β → α → Prop) (K : PySem.W.Frag) (W : WX) (σ : St) (ρ : Env) (k : α → G → O) (D : Ends) (v : β) (H : Hp) : Prop :=
  ∃ μ F a g, Rp K μ F H g ∧ Re K μ F σ ρ ∧ rel μ F v a ∧ PostS K μ F W D (k a g)
theorem postO {α β : Type} {rel : Mp → Hp → β → α → Prop} {K : PySem.W.Frag} {μ : Mp} {F : Hp} {W : WX} {σ : St} {ρ : Env} {r : R α} {k : α → G → O} {D : Ends} (e : Re K μ F σ ρ) (h : PostS K μ F W D (r.toO ρ k)) :
    Post rel K μ F (XW W σ) r (MidS rel K W σ ρ k D) := by
  cases r with
  | ok a g => exact fun μ' F' H' v x y z => ⟨μ', F', a, g, y, e.mono x, z, PostS.ext x h⟩
  | exc C fs g => exact fun μ' F' H' d x y z => h μ' F' H' σ d x y (e.mono x) z
  | bad => exact h
theorem tD.stepS {K : PySem.W.Frag} {W : WX} {σ : St} {ρ : Env} {f : DE S} {k : S → G → O} {D : Ends} {μ : Mp} {F H : Hp} {g : G} (r : Rp K μ F H g) (e : Re K μ F σ ρ) (h : PostS K μ F W D ((f ρ g).toO ρ k)) : tD K W f σ H (MidS (relS K) K W σ ρ k D) :=
  ⟨μ, F, g, ρ, r, e, postO e h⟩
theorem tDB.stepS {K : PySem.W.Frag} {W : WX} {σ : St} {ρ : Env} {f : DE Bool} {k : Bool → G → O} {D : Ends} {μ : Mp} {F H : Hp} {g : G} (r : Rp K μ F H g) (e : Re K μ F σ ρ) (h : PostS K μ F W D ((f ρ g).toO ρ k)) : tDB K W f σ H (MidS relB K W σ ρ k D) :=
  ⟨μ, F, g, ρ, r, e, postO e h⟩
section
variable {X : Cx} {W : WX} {e c : Expr} {pos : Pos} {st : Stmt} {rest : List Stmt} {f : DE S} {t : DE Bool} {k1 k2 : DS}
@[simp] def nextS : DS := fun ρ g => .nx ρ g
@[simp] def seqS (k1 k2 : DS) : DS := fun ρ g => (k1 ρ g).thn k2
theorem sds_nil : SDs X W [] nextS := pss_weak pss_nil fun D σ H ⟨μ, F, g, ρ, r, re, q⟩ => q.nx r re
theorem thn_post {K : PySem.W.Frag} {μ : Mp} {F : Hp} {D : Ends} {o : O} {k : DS} (h : PostS K μ F W D (o.thn k)) : PostS K μ F W { D with nx := tS K W k D } o := by
  cases o with
  | nx ρ g => exact fun μ' F' H' σ' x y z => ⟨μ', F', g, ρ, y, z, PostS.ext x h⟩
  | rt s g => exact h
  | bk ρ g => exact h
  | ct ρ g => exact h
  | exc C fs ρ g => exact h
  | bad => exact h
theorem sds_cons (h1 : SD X W st k1) (h2 : SDs X W rest k2) : SDs X W (st :: rest) (seqS k1 k2) :=
  pss_weak (pss_cons h1 h2) fun D σ H ⟨μ, F, g, ρ, r, re, q⟩ => ⟨μ, F, g, ρ, r, re, thn_post q⟩
theorem sds_one (h1 : SD X W st k1) : SDs X W [st] k1 := pss_one h1
theorem sd_pass : SD X W (.Pass pos) nextS := ps_weak ps_pass fun D σ H ⟨μ, F, g, ρ, r, re, q⟩ => q.nx r re
def breakS : DS := fun ρ g => .bk ρ g
def contS : DS := fun ρ g => .ct ρ g
theorem sd_break : SD X W (.Break pos) breakS := ps_weak ps_break fun D σ H ⟨μ, F, g, ρ, r, re, q⟩ => q μ F H σ (.refl _ _) r re
theorem sd_continue : SD X W (.Continue pos) contS := ps_weak ps_continue fun D σ H ⟨μ, F, g, ρ, r, re, q⟩ => q μ F H σ (.refl _ _) r re
/-- the slot i's cell is frozen, its content data from here on -/
def frzS (i : Nat) : DS := fun ρ g => match ρ[i]? with
  | some (some (.c n)) => match snapC g[n]? with
    | some x => .nx (ρ.set i (some (.d x))) (g.set n .dead)
    | none => .bad
  | some (some (.d _)) => .nx ρ g
  | _ => .bad
theorem Re.set2 {K : PySem.W.Frag} {μ : Mp} {F : Hp} {v : V} {s : S} (h : Sn K μ F v s) {σ : St} {ρ : Env} (i : Nat) (e : Re K μ F σ ρ) (hv : σ[i]? = some (some v)) : Re K μ F σ (ρ.set i (some s)) := by
  have q := Re.set h i e
  have z : σ.set i (some v) = σ := by
    apply List.ext_getElem?
    intro j
    by_cases hj : j = i
    · subst hj
      rw [List.getElem?_set_self (List.getElem?_eq_some_iff.mp hv).1, hv]
    · rw [List.getElem?_set_ne (Ne.symm hj)]
  rw [z] at q
  exact q
theorem sds_frz (i : Nat) (h : SDs X W rest k2) : SDs X W rest (seqS (frzS i) k2) := pss_weak h fun D σ H ⟨μ, F, g, ρ, r, re, q⟩ => by
  have q' : PostS X.K μ F W D ((frzS i ρ g).thn k2) := q
  unfold frzS at q'
  split at q'
  · rename_i n hn
    split at q'
    · rename_i x hx
      obtain ⟨v, hv, sv⟩ := re.get hn
      obtain ⟨F', x', r', d'⟩ := snapC_frz r sv hx
      refine ⟨μ, F', _, _, r', ?_, PostS.ext x' q'⟩
      exact Re.set2 (.d d') i (re.mono x') hv
    · exact q'.elim
  · exact ⟨μ, F, g, ρ, r, re, q'⟩
  · exact q'.elim
/-! ### assignments -/
@[simp] def asgS (i : Nat) (f : DE S) : DS := fun ρ g => (f ρ g).toO ρ fun s g1 => .nx (ρ.set i (some s)) g1
theorem sd_asg {tg : Expr} {i : Nat} (hg : PG X tg (gName i)) (h : ED X W e f) (hs : swapsWithSole [tg] e pos.line X.env = pure false := by rfl) (hw : swappedStores [tg] e X.env = pure none := by rfl) (h1 : (assignEach [tg] X.env).map (·.2) = [assign tg X.env] := by rfl) : SD X W (.Assign [tg] e pos) (asgS i f) :=
  ps_weak (ps_asg h hg hs hw h1) fun D σ H ⟨μ, F, g, ρ, r, re, q⟩ => by
    obtain ⟨μ0, F0, g0, ρ0, r0, re0, p0⟩ := tD.stepS r re q
    refine ⟨μ0, F0, g0, ρ0, r0, re0, p0.imp fun x H1 ⟨μ1, F1, a1, g1, r1, re1, s1, p1⟩ => ?_⟩
    exact p1 μ1 F1 H1 _ (.refl _ _) r1 (Re.set s1 i re1)
/-- a target: what it makes of the slots; js: the slots that it may change -/
abbrev DG := S → Env → Option Env
def Only (js : List Nat) (σ σ' : St) : Prop := σ'.length = σ.length ∧ ∀ j, j ∉ js → σ'[j]? = σ[j]?
theorem Only.refl (js : List Nat) (σ : St) : Only js σ σ := ⟨rfl, fun _ _ => rfl⟩
theorem Only.trans {js ks ls : List Nat} {σ σ1 σ2 : St} (a : Only js σ σ1) (b : Only ks σ1 σ2) (h1 : ∀ j ∈ js, j ∈ ls) (h2 : ∀ j ∈ ks, j ∈ ls) : Only ls σ σ2 := ⟨b.1.trans a.1, fun j hj => (b.2 j fun z => hj (h2 j z)).trans (a.2 j fun z => hj (h1 j z))⟩
theorem Only.set (σ : St) (i : Nat) (v : Option V) : Only [i] σ (σ.set i v) := ⟨List.length_set, fun j hj => List.getElem?_set_ne (by simp at hj; exact Ne.symm hj)⟩
def tG (K : PySem.W.Frag) (js : List Nat) (h : DG) : TG := fun v σ H Q => ∃ μ F g ρ s ρ', Rp K μ F H g ∧ Re K μ F σ ρ ∧ Sn K μ F v s ∧ h s ρ = some ρ' ∧ ∀ σ', Re K μ F σ' ρ' → Only js σ σ' → Q σ' H
def GD (X : Cx) (tg : Expr) (js : List Nat) (h : DG) : Prop := PG X tg (tG X.K js h)
abbrev DGs := List D → Env → Option Env
def tGs (K : PySem.W.Frag) (js : List Nat) (h : DGs) : TGs := fun vs σ H Q => ∃ μ F g ρ ds ρ', Rp K μ F H g ∧ Re K μ F σ ρ ∧ DnL K F vs ds ∧ h ds ρ = some ρ' ∧ ∀ σ', Re K μ F σ' ρ' → Only js σ σ' → Q σ' H
def GDs (X : Cx) (tgs : List Expr) (js : List Nat) (h : DGs) : Prop := PGs X tgs (tGs X.K js h)
theorem pg_weak {X : Cx} {e : Expr} {t t' : TG} (h : PG X e t) (k : ∀ v σ H Q, t' v σ H Q → t v σ H Q) : PG X e t' := ⟨fun pins s σ H v u Q I r q => h.run pins s σ H v u Q I r (k v σ H Q q)⟩
theorem pgs_weak {X : Cx} {e : List Expr} {t t' : TGs} (h : PGs X e t) (k : ∀ v σ H Q, t' v σ H Q → t v σ H Q) : PGs X e t' := ⟨fun pins s σ H v u Q I r q => h.run pins s σ H v u Q I r (k v σ H Q q)⟩
@[simp] def nameG (i : Nat) : DG := fun s ρ => some (ρ.set i (some s))
theorem gd_name {tg : Expr} {i : Nat} (hg : PG X tg (gName i)) : GD X tg [i] (nameG i) := pg_weak hg fun v σ H Q ⟨μ, F, g, ρ, s, ρ', r, re, sv, h, q⟩ => by
  have h' : ρ.set i (some s) = ρ' := Option.some.inj h
  subst h'
  exact q _ (Re.set sv i re) (Only.set σ i _)
@[simp] def nilG : DGs := fun ds ρ => match ds with
  | [] => some ρ
  | _ => none
@[simp] def consG (h : DG) (hs : DGs) : DGs := fun ds ρ => match ds with
  | d :: r => (h (.d d) ρ).bind fun ρ1 => hs r ρ1
  | [] => none
theorem gds_nil : GDs X [] [] nilG := pgs_weak pgs_nil fun v σ H Q ⟨μ, F, g, ρ, ds, ρ', r, re, sv, h, q⟩ => by
  cases sv with
  | nil => cases h; exact ⟨rfl, q _ re (Only.refl _ _)⟩
  | cons => cases h
theorem gds_cons {tg : Expr} {tgs : List Expr} {js ks : List Nat} {hd : DG} {hs : DGs} (h1 : GD X tg js hd) (h2 : GDs X tgs ks hs) (hh : (assignEach (tg :: tgs) X.env).map (·.2) = assign tg X.env :: (assignEach tgs X.env).map (·.2) := by rfl) : GDs X (tg :: tgs) (js ++ ks) (consG hd hs) :=
  pgs_weak (pgs_cons h1 h2 hh) fun v σ H Q ⟨μ, F, g, ρ, ds, ρ', r, re, sv, h, q⟩ => by
    cases sv with
    | nil => cases h
    | @cons v vs d ds hv hvs =>
      unfold consG at h
      simp only at h
      cases e : hd (.d d) ρ with
      | none => rw [e] at h; cases h
      | some ρ1 =>
        rw [e] at h
        refine ⟨_, _, rfl, μ, F, g, ρ, .d d, ρ1, r, re, .d hv, e, fun σ1 re1 o1 => ?_⟩
        exact ⟨μ, F, g, ρ1, ds, ρ', r, re1, hvs, h, fun σ2 re2 o2 => q σ2 re2 (o1.trans o2 (fun j z => List.mem_append_left _ z) fun j z => List.mem_append_right _ z)⟩
@[simp] def tupG (n : Nat) (hs : DGs) : DG := fun s ρ => match s with
  | .d (.tup ds) => if ds.length = n then hs ds ρ else none
  | _ => none
theorem gd_tup {es : List Expr} {k n : Nat} {js : List Nat} {hs : DGs} (hc : X.calm = true) (h : GDs X es js hs) (hn : (assignEach es X.env).length = n := by rfl) (hst : (assignEach es X.env).findIdx? (·.1) = none := by rfl) : GD X (.Tuple es k pos) js (tupG n hs) :=
  pg_weak (pg_tup hc h hn hst) fun v σ H Q ⟨μ, F, g, ρ, s, ρ', r, re, sv, h, q⟩ => by
    unfold tupG at h
    split at h
    · rename_i ds
      by_cases hl : ds.length = n
      · rw [if_pos hl] at h
        cases sv with
        | d sv =>
          cases sv with
          | tup hq hd => exact ⟨_, _, rfl, ex_t r.ex hq, by rw [hd.length]; exact hl, μ, F, g, ρ, ds, ρ', r, re, hd, h, q⟩
      · rw [if_neg hl] at h; cases h
    · cases h
@[simp] def setS (h : DG) (f : DE S) : DS := fun ρ g => (f ρ g).toO ρ fun s g1 => match h s ρ with
  | some ρ' => .nx ρ' g1
  | none => .bad
theorem sd_set {tg : Expr} {js : List Nat} {h : DG} (hg : GD X tg js h) (he : ED X W e f) (hs : swapsWithSole [tg] e pos.line X.env = pure false := by rfl) (hw : swappedStores [tg] e X.env = pure none := by rfl) (h1 : (assignEach [tg] X.env).map (·.2) = [assign tg X.env] := by rfl) : SD X W (.Assign [tg] e pos) (setS h f) :=
  ps_weak (ps_asg he hg hs hw h1) fun D σ H ⟨μ, F, g, ρ, r, re, q⟩ => by
    obtain ⟨μ0, F0, g0, ρ0, r0, re0, p0⟩ := tD.stepS r re q
    refine ⟨μ0, F0, g0, ρ0, r0, re0, p0.imp fun x H1 ⟨μ1, F1, a1, g1, r1, re1, s1, p1⟩ => ?_⟩
    cases e1 : h a1 ρ with
    | none => simp only [e1] at p1; exact p1.elim
    | some ρ' =>
      simp only [e1] at p1
      exact ⟨μ1, F1, g1, ρ, a1, ρ', r1, re1, s1, e1, fun σ' re' _ => p1 μ1 F1 H1 σ' (.refl _ _) r1 re'⟩
/-- x = e1, y = e2 .. (two names, both sides written): see sd_par -/
@[simp] def exprS (f : DE S) : DS := fun ρ g => (f ρ g).toO ρ fun _ g1 => .nx ρ g1
theorem sd_expr (h : ED X W e f) (hs : swapsWith e none pos.line X.env = pure false := by rfl) : SD X W (.Expr e pos) (exprS f) :=
  ps_weak (ps_expr h hs) fun D σ H ⟨μ, F, g, ρ, r, re, q⟩ => by
    obtain ⟨μ0, F0, g0, ρ0, r0, re0, p0⟩ := tD.stepS r re q
    exact ⟨μ0, F0, g0, ρ0, r0, re0, p0.imp fun x H1 ⟨μ1, F1, a1, g1, r1, re1, s1, p1⟩ => p1 μ1 F1 H1 _ (.refl _ _) r1 re1⟩
@[simp] def retS (f : DE S) : DS := fun ρ g => (f ρ g).toO ρ fun s g1 => .rt s g1
theorem sd_ret (h : ED X W e f) : SD X W (.Return (some e) pos) (retS f) :=
  ps_weak (ps_ret h) fun D σ H ⟨μ, F, g, ρ, r, re, q⟩ => by
    obtain ⟨μ0, F0, g0, ρ0, r0, re0, p0⟩ := tD.stepS r re q
    exact ⟨μ0, F0, g0, ρ0, r0, re0, p0.imp fun x H1 ⟨μ1, F1, a1, g1, r1, re1, s1, p1⟩ => p1 μ1 F1 H1 _ (.refl _ _) r1 s1⟩
@[simp] def retNS : DS := fun _ g => .rt (.d .non) g
theorem sd_retN : SD X W (.Return none pos) retNS := ps_weak ps_retN fun D σ H ⟨μ, F, g, ρ, r, re, q⟩ => q μ F H _ (.refl _ _) r (.d .non)
@[simp] def ifS (t : DE Bool) (k1 k2 : DS) : DS := fun ρ g => (t ρ g).toO ρ fun b g1 => if b then k1 ρ g1 else k2 ρ g1
theorem sd_if {a b : List Stmt} (hc : TD X W c t) (ha : SDs X W a k1) (hb : SDs X W b k2) : SD X W (.If c a b pos) (ifS t k1 k2) :=
  ps_weak (ps_if hc ha hb) fun D σ H ⟨μ, F, g, ρ, r, re, q⟩ => by
    obtain ⟨μ0, F0, g0, ρ0, r0, re0, p0⟩ := tDB.stepS r re q
    refine ⟨μ0, F0, g0, ρ0, r0, re0, p0.imp fun x H1 ⟨μ1, F1, a1, g1, r1, re1, s1, p1⟩ => ?_⟩
    cases s1
    cases x with
    | true => exact ⟨μ1, F1, g1, ρ, r1, re1, p1⟩
    | false => exact ⟨μ1, F1, g1, ρ, r1, re1, p1⟩
/-! ### walked things -/
/-- the iterator J hands out ds, whatever comes to the frozen heap F0 -/
structure WalkD (K : PySem.W.Frag) (F0 : Hp) (J : It) (ds : List D) : Prop where
  go : ∀ (i : Nat) H, Ex F0 H → i < ds.length → J.go i H
  stop : ∀ (i : Nat) H, Ex F0 H → ds.length ≤ i → J.stop i H
  yld : ∀ (i : Nat) H x H' d μ F g, Ex F0 F → Rp K μ F H g → J.yld i H x H' → ds[i]? = some d → ∃ F', Ext μ F μ F' ∧ Rp K μ F' H' g ∧ Dn K F' x d
theorem WalkD.mono {K : PySem.W.Frag} {F0 F1 : Hp} {J : It} {ds : List D} (e : Ex F0 F1) (w : WalkD K F0 J ds) : WalkD K F1 J ds :=
  ⟨fun i H x => w.go i H (ex_trans e x), fun i H x => w.stop i H (ex_trans e x), fun i H x H' d μ F g y => w.yld i H x H' d μ F g (ex_trans e y)⟩
abbrev relI (K : PySem.W.Frag) : Mp → Hp → It → List D → Prop := fun _ F J ds => WalkD K F J ds
def tI (K : PySem.W.Frag) (W : WX) (f : DE (List D)) : TI := fun σ H R => ∃ μ F g ρ, Rp K μ F H g ∧ Re K μ F σ ρ ∧ Post (relI K) K μ F (XW W σ) (f ρ g) R
def ID (X : Cx) (W : WX) (tg iter : Expr) (f : DE (List D)) : Prop := PI X tg iter (tI X.K W f)
theorem pi_weak {X : Cx} {tg e : Expr} {t t' : TI} (h : PI X tg e t) (k : ∀ σ H Q, t' σ H Q → t σ H Q) : PI X tg e t' := ⟨fun pins s σ H Q I q => h.run pins s σ H Q I (k σ H Q q)⟩
/-- a list or a tuple -/
def iSeq (K : PySem.W.Frag) (tl : TE) : TI := fun σ H R => tl σ H fun x H1 => ∃ a xs, x = .ref a ∧ ((SqL K H1 a xs ∧ R (Itl K a) H1) ∨ (SqT K H1 a xs ∧ R (Itt K a) H1))
theorem pi_seq {tg l : Expr} {tl : TE} (hl : PE X l tl) : PI X tg l (iSeq X.K tl) := by
  refine ⟨fun pins s σ H R I h => ?_⟩
  refine thn (hl.run pins s σ H _ I h) fun v s1 ⟨x, H1, I1, r1, q1⟩ => ?_
  obtain ⟨a, xs, e, q⟩ := q1
  subst e
  cases r1
  rcases q with ⟨hq, q⟩ | ⟨hq, q⟩
  · obtain ⟨its, rv, p, hz⟩ := I1.list hq
    refine wpAny_pyIter_list p.isList ?_
    refine ⟨s1.heap.objs.size, [s1.heap.objs.size], _, _, H1, rfl, I1.kept (t' := s1.toks) fun b o e => Heap.get?_push_of_some _ e, turn_list a _, ⟨_, Heap.get?_push_size _ rfl, rfl, rfl⟩, fun b hb => ?_, q⟩
    have e : b = s1.heap.objs.size := by simpa using hb
    subst e
    exact I1.fpOk (Nat.le_refl _) (I1.hok.fresh (Nat.le_refl _))
  · obtain ⟨its, rv, p, hz⟩ := I1.tuple hq
    refine wpAny_pyIter_tuple (show s1.heap.IsTuple a its.toArray from p) ?_
    refine ⟨s1.heap.objs.size, [s1.heap.objs.size], _, _, H1, rfl, I1.kept (t' := s1.toks) fun b o e => Heap.get?_push_of_some _ e, turn_tuple a _, ⟨_, Heap.get?_push_size _ rfl, rfl, rfl⟩, fun b hb => ?_, q⟩
    have e : b = s1.heap.objs.size := by simpa using hb
    subst e
    exact I1.fpOk (Nat.le_refl _) (I1.hok.fresh (Nat.le_refl _))
theorem walk_l {K : PySem.W.Frag} {F : Hp} {a : Addr} {xs : List V} {ds : List D} (hq : SqL K F a xs) (hd : DnL K F xs ds) : WalkD K F (Itl K a) ds where
  go := fun i H e hi => ⟨xs, xs[i]'(by rw [hd.length]; exact hi), ex_l e hq, List.getElem?_eq_getElem _⟩
  stop := fun i H e hi => ⟨xs, ex_l e hq, by rw [hd.length]; exact hi⟩
  yld := fun i H x H' d μ F1 g e r y hi => by
    obtain ⟨rfl, y⟩ := y
    obtain ⟨v, h1, h2⟩ := hd.get hi
    have h3 := y xs (ex_l (ex_trans e r.ex) hq)
    rw [h1] at h3; cases h3
    exact ⟨F1, .refl _ _, r, h2.mono e⟩
theorem walk_t {K : PySem.W.Frag} {F : Hp} {a : Addr} {xs : List V} {ds : List D} (hq : SqT K F a xs) (hd : DnL K F xs ds) : WalkD K F (Itt K a) ds where
  go := fun i H e hi => ⟨xs, xs[i]'(by rw [hd.length]; exact hi), ex_t e hq, List.getElem?_eq_getElem _⟩
  stop := fun i H e hi => ⟨xs, ex_t e hq, by rw [hd.length]; exact hi⟩
  yld := fun i H x H' d μ F1 g e r y hi => by
    obtain ⟨rfl, y⟩ := y
    obtain ⟨v, h1, h2⟩ := hd.get hi
    have h3 := y xs (ex_t (ex_trans e r.ex) hq)
    rw [h1] at h3; cases h3
    exact ⟨F1, .refl _ _, r, h2.mono e⟩
/-- the items of a list, a tuple, the script -/
@[simp] def itemsD : D → Option (List D)
  | .lst ds => some ds
  | .tup ds => some ds
  | .scr ns => some (ns.map D.int)
  | _ => none
@[simp] def seqI (f : DE S) : DE (List D) := fun ρ g => (f ρ g).bind fun s g1 => match s with
  | .d x => match itemsD x with
    | some ds => .ok ds g1
    | none => .bad
  | _ => .bad
theorem id_seq {tg : Expr} (h : ED X W e f) : ID X W tg e (seqI f) := pi_weak (pi_seq h) fun σ H R ⟨μ, F, g, ρ, r, re, q⟩ => by
  obtain ⟨μ0, F0, g0, ρ0, r0, re0, p0⟩ := tD.step r re q
  refine ⟨μ0, F0, g0, ρ0, r0, re0, p0.imp fun x H1 ⟨μ1, F1, a1, g1, r1, re1, s1, p1⟩ => ?_⟩
  cases a1 with
  | c n => exact p1.elim
  | i n => exact p1.elim
  | d d =>
    cases d <;> first | exact False.elim p1 | skip
    · cases s1 with
      | d s1 =>
        cases s1 with
        | tup hq hd => exact ⟨_, _, rfl, .inr ⟨ex_t r1.ex hq, p1 μ1 F1 H1 _ (.refl _ _) r1 (walk_t hq hd)⟩⟩
    · cases s1 with
      | d s1 =>
        cases s1 with
        | lst hq hd => exact ⟨_, _, rfl, .inl ⟨SqL.of (r1.ex _ _ hq), p1 μ1 F1 H1 _ (.refl _ _) r1 (walk_l (SqL.of hq) hd)⟩⟩
    · cases s1 with
      | d s1 =>
        cases s1 with
        | scr hq => exact ⟨_, _, rfl, .inl ⟨ex_l r1.ex hq, p1 μ1 F1 H1 _ (.refl _ _) r1 (walk_l hq (DnL.ints _))⟩⟩
/-- range(lo, hi) -/
def rangeL (lo hi : Int) : List D := (List.range (hi - lo).toNat).map fun i => D.int (lo + (i : Nat))
theorem walk_r {K : PySem.W.Frag} {F : Hp} (lo : Int) (n : Nat) : WalkD K F (Itr lo n) ((List.range n).map fun i => D.int (lo + (i : Nat))) where
  go := fun i H e hi => by
    have h : i < n := by simpa using hi
    exact h
  stop := fun i H e hi => by
    have h : n ≤ i := by simpa using hi
    exact h
  yld := fun i H x H' d μ F1 g e r y hi => by
    obtain ⟨rfl, rfl⟩ := y
    have hi' : i < n := by
      have := (List.getElem?_eq_some_iff.mp hi).1
      simpa using this
    rw [List.getElem?_map, List.getElem?_range hi'] at hi
    cases hi
    exact ⟨F1, .refl _ _, r, .int _⟩
def inR (i : Int) : Bool := decide (-(2 ^ 62) ≤ i ∧ i < 2 ^ 62)
def range1 (fl : DE (List S)) : DE (List D) := fun ρ g => (fl ρ g).bind fun xs g1 => match xs with
  | [.d (.int j)] => if inR j then .ok (rangeL 0 j) g1 else .bad
  | _ => .bad
def range2 (fl : DE (List S)) : DE (List D) := fun ρ g => (fl ρ g).bind fun xs g1 => match xs with
  | [.d (.int i), .d (.int j)] => if inR i && inR j then .ok (rangeL i j) g1 else .bad
  | _ => .bad
theorem range0_eq (j : Int) : rangeL 0 j = (List.range j.toNat).map fun i => D.int (0 + (i : Nat)) := by unfold rangeL; rw [Int.sub_zero]
variable {fl : DE (List S)}
theorem id_range1 {tg a : Expr} {p : Pos} (hg : Gl X "range") (hm : X.mg "range" = none) (ha : LD X W [a] fl) (hs : starEach [a] X.env = [(false, eval a X.env)] := by rfl) : ID X W tg (.Call (.Name "range" p) [a] [] pos) (range1 fl) :=
  pi_weak (pi_range1 hg hm ha hs) fun σ H R ⟨μ, F, g, ρ, r, re, q⟩ => by
    obtain ⟨μ0, F0, g0, ρ0, r0, re0, p0⟩ := tDL.step r re q
    refine ⟨μ0, F0, g0, ρ0, r0, re0, p0.imp fun x H1 ⟨μ1, F1, a1, g1, r1, re1, s1, p1⟩ => ?_⟩
    dsimp only at p1
    split at p1
    · rename_i j
      by_cases hj : inR j = true
      · rw [if_pos hj] at p1
        cases s1 with
        | cons h1 t =>
          cases t
          cases h1 with
          | d h1 =>
            cases h1
            obtain ⟨b1, b2⟩ := of_decide_eq_true (show decide (-(2 ^ 62) ≤ j ∧ j < 2 ^ 62) = true from hj)
            refine ⟨j, rfl, b1, b2, p1 μ1 F1 H1 _ (.refl _ _) r1 ?_⟩
            rw [range0_eq]; exact walk_r 0 j.toNat
      · rw [if_neg hj] at p1; exact p1.elim
    · exact p1.elim
theorem id_range2 {tg a b : Expr} {p : Pos} (hg : Gl X "range") (hm : X.mg "range" = none) (ha : LD X W [a, b] fl) (hs : starEach [a, b] X.env = [(false, eval a X.env), (false, eval b X.env)] := by rfl) (hs2 : starEach [b] X.env = [(false, eval b X.env)] := by rfl) : ID X W tg (.Call (.Name "range" p) [a, b] [] pos) (range2 fl) :=
  pi_weak (pi_range2 hg hm ha hs hs2) fun σ H R ⟨μ, F, g, ρ, r, re, q⟩ => by
    obtain ⟨μ0, F0, g0, ρ0, r0, re0, p0⟩ := tDL.step r re q
    refine ⟨μ0, F0, g0, ρ0, r0, re0, p0.imp fun x H1 ⟨μ1, F1, a1, g1, r1, re1, s1, p1⟩ => ?_⟩
    dsimp only at p1
    split at p1
    · rename_i i j
      by_cases hj : (inR i && inR j) = true
      · rw [if_pos hj] at p1
        cases s1 with
        | cons h1 t =>
          cases t with
          | cons h2 t =>
            cases t
            cases h1 with
            | d h1 =>
              cases h1
              cases h2 with
              | d h2 =>
                cases h2
                obtain ⟨hi, hj⟩ := Bool.and_eq_true_iff.mp hj
                obtain ⟨b1, b2⟩ := of_decide_eq_true (show decide (-(2 ^ 62) ≤ i ∧ i < 2 ^ 62) = true from hi)
                obtain ⟨b3, b4⟩ := of_decide_eq_true (show decide (-(2 ^ 62) ≤ j ∧ j < 2 ^ 62) = true from hj)
                exact ⟨i, j, rfl, ⟨b1, b2, b3, b4⟩, p1 μ1 F1 H1 _ (.refl _ _) r1 (walk_r i (j - i).toNat)⟩
      · rw [if_neg hj] at p1; exact p1.elim
    · exact p1.elim
/-! ### for, while -/
def loopS (h : DG) (body : DS) : List D → DS
  | [], ρ, g => .nx ρ g
  | d :: ds, ρ, g => match h (.d d) ρ with
    | none => .bad
    | some ρ1 => match body ρ1 g with
      | .nx ρ2 g2 => loopS h body ds ρ2 g2
      | .ct ρ2 g2 => loopS h body ds ρ2 g2
      | .bk ρ2 g2 => .nx ρ2 g2
      | .rt s g2 => .rt s g2
      | .exc C fs ρ2 g2 => .exc C fs ρ2 g2
      | .bad => .bad
def forS (it : DE (List D)) (h : DG) (body : DS) : DS := fun ρ g => (it ρ g).toO ρ fun ds g1 => loopS h body ds ρ g1
theorem sd_for {tg iter : Expr} {body : List Stmt} {it : DE (List D)} {js : List Nat} {h : DG} (hp : PassesOwn (model X.prog X.w) X.A X.env X.xe) (hc : X.calm = true) (hi : ID X W tg iter it) (hg : GD X tg js h) (hb : SDs X W body k1)
    (hs : ∀ x, foldedSetIterable iter X.env x = pure x := by intro _; rfl) : SD X W (.For tg iter body [] pos) (forS it h k1) :=
  ps_weak (ps_for hp hc hi hg hb hs) fun D σ H ⟨μ, F, g, ρ, r, re, q⟩ => by
    refine ⟨μ, F, g, ρ, r, re, (postO (rel := relI X.K) re q).imp fun J H1 ⟨μ1, F1, ds, g1, r1, re1, w1, p1⟩ => ?_⟩
    refine ⟨fun i m σ H => m = ds.length - i ∧ i ≤ ds.length ∧ ∃ μ F g ρ, Ext μ1 F1 μ F ∧ Rp X.K μ F H g ∧ Re X.K μ F σ ρ ∧ PostS X.K μ F W D (loopS h k1 (ds.drop i) ρ g), ⟨ds.length, by simp, Nat.zero_le _, μ1, F1, g1, ρ, .refl _ _, r1, re1, by simpa using p1⟩, ?_⟩
    rintro i m σ H ⟨rfl, hi, μ, F, g, ρ, x, r, re, q⟩
    by_cases hl : i < ds.length
    · refine .inr ⟨w1.go i H (ex_trans x.f r.ex) hl, _, fun σ' H' n => ⟨_, ?_, rfl, hl, n⟩, fun y H' hy => ?_⟩
      · omega
      · have hd : ds[i]? = some ds[i] := List.getElem?_eq_getElem hl
        obtain ⟨F', x', r', d'⟩ := w1.yld i H y H' _ μ F g x.f r hy hd
        rw [List.drop_eq_getElem_cons hl] at q
        unfold loopS at q
        cases e1 : h (.d ds[i]) ρ with
        | none => simp only [e1] at q; exact q.elim
        | some ρ1 =>
          simp only [e1] at q
          refine ⟨μ, F', g, ρ, .d ds[i], ρ1, r', re.mono x', .d d', e1, fun σ2 re2 _ => ?_⟩
          refine ⟨μ, F', g, ρ1, r', re2, ?_⟩
          cases e2 : k1 ρ1 g with
          | nx ρ2 g2 =>
            rw [e2] at q
            exact fun μ3 F3 H3 σ3 x3 r3 re3 => ⟨μ3, F3, g2, ρ2, (x.trans x').trans x3, r3, re3, PostS.ext (x'.trans x3) q⟩
          | ct ρ2 g2 =>
            rw [e2] at q
            exact fun μ3 F3 H3 σ3 x3 r3 re3 => ⟨μ3, F3, g2, ρ2, (x.trans x').trans x3, r3, re3, PostS.ext (x'.trans x3) q⟩
          | bk ρ2 g2 =>
            rw [e2] at q
            exact fun μ3 F3 H3 σ3 x3 r3 re3 => q μ3 F3 H3 σ3 (x'.trans x3) r3 re3
          | rt s g2 =>
            rw [e2] at q
            exact fun μ3 F3 H3 σ3 x3 r3 re3 => q μ3 F3 H3 σ3 (x'.trans x3) r3 re3
          | exc C fs ρ2 g2 =>
            rw [e2] at q
            exact fun μ3 F3 H3 σ3 d x3 r3 re3 => q μ3 F3 H3 σ3 d (x'.trans x3) r3 re3
          | bad =>
            rw [e2] at q
            exact q.elim
    · have e : i = ds.length := by omega
      subst e
      rw [List.drop_length] at q
      exact .inl ⟨w1.stop _ H (ex_trans x.f r.ex) (Nat.le_refl _), q.nx r re⟩
def whileN (t : DE Bool) (body : DS) : Nat → DS
  | 0, _, _ => .bad
  | n + 1, ρ, g => (t ρ g).toO ρ fun b g1 => if b then (match body ρ g1 with
      | .nx ρ2 g2 => whileN t body n ρ2 g2
      | .ct ρ2 g2 => whileN t body n ρ2 g2
      | .bk ρ2 g2 => .nx ρ2 g2
      | .rt s g2 => .rt s g2
      | .exc C fs ρ2 g2 => .exc C fs ρ2 g2
      | .bad => .bad) else .nx ρ g1
/-- a while, with as many turns as m allows -/
def whileS (m : Env → G → Nat) (t : DE Bool) (body : DS) : DS := fun ρ g => whileN t body (m ρ g) ρ g
theorem sd_while (m : Env → G → Nat) {body : List Stmt} (hp : PassesOwn (model X.prog X.w) X.A X.env X.xe) (hc : TD X W c t) (hb : SDs X W body k1) : SD X W (.While c body [] pos) (whileS m t k1) :=
  ps_weak (ps_while hp hc hb) fun D σ H ⟨μ, F, g, ρ, r, re, q⟩ => by
    refine ⟨fun n σ H => ∃ μ F g ρ, Rp X.K μ F H g ∧ Re X.K μ F σ ρ ∧ PostS X.K μ F W D (whileN t k1 n ρ g), ⟨m ρ g, μ, F, g, ρ, r, re, q⟩, ?_⟩
    rintro n σ H ⟨μ, F, g, ρ, r, re, q⟩
    cases n with
    | zero => exact q.elim
    | succ n =>
      obtain ⟨μ0, F0, g0, ρ0, r0, re0, p0⟩ := tDB.stepS r re q
      refine ⟨μ0, F0, g0, ρ0, r0, re0, p0.imp fun x H1 ⟨μ1, F1, a1, g1, r1, re1, s1, p1⟩ => ?_⟩
      cases s1
      cases x with
      | false => exact p1.nx r1 re1
      | true =>
        refine ⟨_, fun σ' H' z => ⟨n, Nat.lt_succ_self n, z⟩, μ1, F1, g1, ρ, r1, re1, ?_⟩
        dsimp only at p1
        rw [if_pos rfl] at p1
        cases e2 : k1 ρ g1 with
        | nx ρ2 g2 => rw [e2] at p1; exact fun μ3 F3 H3 σ3 x3 r3 re3 => ⟨μ3, F3, g2, ρ2, r3, re3, PostS.ext x3 p1⟩
        | ct ρ2 g2 => rw [e2] at p1; exact fun μ3 F3 H3 σ3 x3 r3 re3 => ⟨μ3, F3, g2, ρ2, r3, re3, PostS.ext x3 p1⟩
        | bk ρ2 g2 => rw [e2] at p1; exact p1
        | rt s g2 => rw [e2] at p1; exact p1
        | exc C fs ρ2 g2 => rw [e2] at p1; exact p1
        | bad => rw [e2] at p1; exact p1.elim
/-! ### defs -/
/-- a def's promise: it computes φ; its own cells go with it -/
def spD (K : PySem.W.Frag) (n : Nat) (φ : DF) : Sp := fun vs H Q E => ∃ μ F g ss, Rp K μ F H g ∧ SnL K μ F vs ss ∧ ss.length = n ∧ Post (relS K) K μ F E (φ ss g) Q
abbrev FnD (P : Program) (w : World) (K : PySem.W.Frag) (mg : Str → Option Value) (base : Heap) (k : Nat) (f : Addr) (fd : FuncData) (ps : List Str) (φ : DF) : Prop := FnOk P w K mg base (L2.CX P w) k f fd ps (spD K ps.length φ)
/-- what a body hands back: data; its own list, frozen; an elder cell -/
def finD (n : Nat) (s : S) (g : G) : R S := match s with
  | .d x => .ok (.d x) (g.take n)
  | .c m => if m < n then .ok (.c m) (g.take n) else (match snapC g[m]? with
    | some x => .ok (.d x) (g.take n)
    | none => .bad)
  | .i m => if m < n then .ok (.i m) (g.take n) else .bad
def defD (N : Nat) (body : DS) : DF := fun ss g => match body (ss.map some ++ List.replicate (N - ss.length) none) g with
  | .nx _ g' => .ok (.d .non) (g'.take g.length)
  | .rt s g' => finD g.length s g'
  | .exc C fs _ g' => .exc C fs (g'.take g.length)
  | _ => .bad
/-- .. that hands back a cell of its own -/
def defC (N : Nat) (body : DS) : DF := fun ss g => match body (ss.map some ++ List.replicate (N - ss.length) none) g with
  | .rt s g' => .ok s g'
  | _ => .bad
theorem Rp.cut {K : PySem.W.Frag} {μ : Mp} {F H : Hp} {g : G} (r : Rp K μ F H g) (n : Nat) : Rp K (μ.take n) F H (g.take n) := by
  have tk : ∀ {α : Type} {l : List α} {m : Nat} {x : α}, (l.take n)[m]? = some x → l[m]? = some x := fun {α l m x} h => by
    rw [List.getElem?_take] at h
    split at h
    · exact h
    · cases h
  exact ⟨r.ex, by simp [r.len], fun m fp c h1 h2 => r.ok m fp c (tk h1) (tk h2), fun m k fp fq c d a h1 h2 h3 h4 => r.dj m k fp fq c d a (tk h1) (tk h2) (tk h3) (tk h4)⟩
theorem Ext.cut {μ μ' : Mp} {F F' : Hp} (e : Ext μ F μ' F') : Ext μ F (μ'.take μ.length) F' := ⟨fun n a h => by
  have := (List.getElem?_eq_some_iff.mp h).1
  rw [List.getElem?_take, if_pos this]
  exact e.m n a h, e.f⟩
theorem Re.start {K : PySem.W.Frag} {μ : Mp} {F : Hp} (N : List Str) {vs : List V} {ss : List S} (h : SnL K μ F vs ss) : Re K μ F (start N vs) (ss.map some ++ List.replicate (N.length - ss.length) none) := by
  have rep : ∀ n : Nat, Re K μ F (List.replicate n none) (List.replicate n none) := fun n => by
    induction n with
    | zero => exact .nil
    | succ n ih => exact .cons trivial ih
  have app : ∀ {a : St} {b : Env} {c : St} {d : Env}, Re K μ F a b → Re K μ F c d → Re K μ F (a ++ c) (b ++ d) := fun {a b c d} h1 h2 => by
    induction h1 with
    | nil => exact h2
    | cons q _ ih => exact .cons q ih
  unfold L2.start
  rw [Paired.length h]
  refine app ?_ (rep _)
  induction h with
  | nil => exact .nil
  | cons q _ ih => exact .cons q ih
section
variable {P : Program} {w : World} {K : PySem.W.Frag} {mg : Str → Option Value} {base : Heap}
theorem snap_fin {μ μ' : Mp} {F F' H' : Hp} {g' : G} {s : S} {v : V} {Q : VK} {E : XK} (e : Ext μ F μ' F') (r : Rp K μ' F' H' g') (sv : Sn K μ' F' v s) (h : Post (relS K) K μ F E (finD μ.length s g') Q) : Q v H' := by
  cases s with
  | d x =>
    refine h (μ'.take μ.length) F' H' v e.cut (r.cut _) ?_
    cases sv with
    | d sv => exact .d sv
  | c m =>
    unfold finD at h
    dsimp only at h
    by_cases hm : m < μ.length
    · rw [if_pos hm] at h
      refine h (μ'.take μ.length) F' H' v e.cut (r.cut _) ?_
      cases sv with
      | @c _ a l sv => exact .c (l := l) (by rw [List.getElem?_take, if_pos hm]; exact sv)
    · rw [if_neg hm] at h
      cases e1 : snapC g'[m]? with
      | none => rw [e1] at h; exact h.elim
      | some x =>
        rw [e1] at h
        obtain ⟨F2, x2, r2, d2⟩ := snapC_frz r sv e1
        have r3 := r2.cut μ.length
        have z : (g'.set m .dead).take μ.length = g'.take μ.length := by
          rw [List.take_set]
          exact List.set_eq_of_length_le (by simp; omega)
        rw [z] at r3
        exact h (μ'.take μ.length) F2 H' v ((e.trans x2).cut) r3 (.d d2)
  | i m =>
    unfold finD at h
    dsimp only at h
    by_cases hm : m < μ.length
    · rw [if_pos hm] at h
      refine h (μ'.take μ.length) F' H' v e.cut (r.cut _) ?_
      cases sv with
      | @i _ a b l sv => exact .i (a := a) (l := l) (by rw [List.getElem?_take, if_pos hm]; exact sv)
    · rw [if_neg hm] at h; exact h.elim
/-- THE RULE for a def -/
theorem fn_d {x qual : Str} {st : Stmt} {f : Addr} {fd : FuncData} {N ps : List Str} {k : Nat} {body : DS} (F : Fun K x qual st f fd) (Sc : FnScope N ps (defScope st))
    (hbody : ∀ (cdv : Value) (A : Around) (outer : List PySem.Env) (s : Shared) (H : Hp) (E : XK), Room k (A.deeper (envOfC qual (defScope st) s.heap.objs.size f cdv)) →
      SDs (cxOf (L2.CX P w) P w K mg base N qual (defScope st) f cdv A outer s H E) (fun cls d _ H => E cls d H) (defBody st) body) : FnD P w K mg base (k + 1) f fd ps (defD N.length body) := by
  refine F.okX Sc (fun vs H Q E h => ?_) (fun cdv A outer s H vs Q E hr h => ?_)
  · obtain ⟨μ, F, g, ss, _, hs, hl, _⟩ := h
    rw [Paired.length hs, hl]
  · refine ⟨_, hbody cdv A outer s H E hr, ?_⟩
    obtain ⟨μ, F, g, ss, r, hs, hl, q⟩ := h
    refine ⟨μ, F, g, _, r, Re.start N hs, ?_⟩
    unfold defD at q
    cases e : body (ss.map some ++ List.replicate (N.length - ss.length) none) g with
    | nx ρ g' =>
      rw [e] at q
      intro μ' F' H' σ' x r' re'
      refine q (μ'.take μ.length) F' H' _ x.cut ?_ (.d .non)
      rw [← r.len]; exact r'.cut _
    | rt s g' =>
      rw [e] at q
      intro μ' F' H' v x r' sv
      refine snap_fin (E := E) x r' sv ?_
      rw [r.len]; exact q
    | exc C fs ρ g' =>
      rw [e] at q
      intro μ' F' H' σ' d x r' re' xd
      refine q (μ'.take μ.length) F' H' d x.cut ?_ xd
      rw [← r.len]; exact r'.cut _
    | bk ρ g' => rw [e] at q; exact q.elim
    | ct ρ g' => rw [e] at q; exact q.elim
    | bad => rw [e] at q; exact q.elim
theorem fn_c {x qual : Str} {st : Stmt} {f : Addr} {fd : FuncData} {N ps : List Str} {k : Nat} {body : DS} (F : Fun K x qual st f fd) (Sc : FnScope N ps (defScope st))
    (hbody : ∀ (cdv : Value) (A : Around) (outer : List PySem.Env) (s : Shared) (H : Hp) (E : XK), Room k (A.deeper (envOfC qual (defScope st) s.heap.objs.size f cdv)) →
      SDs (cxOf (L2.CX P w) P w K mg base N qual (defScope st) f cdv A outer s H E) (fun cls d _ H => E cls d H) (defBody st) body) : FnD P w K mg base (k + 1) f fd ps (defC N.length body) := by
  refine F.okX Sc (fun vs H Q E h => ?_) (fun cdv A outer s H vs Q E hr h => ?_)
  · obtain ⟨μ, F, g, ss, _, hs, hl, _⟩ := h
    rw [Paired.length hs, hl]
  · refine ⟨_, hbody cdv A outer s H E hr, ?_⟩
    obtain ⟨μ, F, g, ss, r, hs, hl, q⟩ := h
    refine ⟨μ, F, g, _, r, Re.start N hs, ?_⟩
    unfold defC at q
    cases e : body (ss.map some ++ List.replicate (N.length - ss.length) none) g with
    | rt s g' => rw [e] at q; exact q
    | nx ρ g' => rw [e] at q; exact q.elim
    | exc C fs ρ g' => rw [e] at q; exact q.elim
    | bk ρ g' => rw [e] at q; exact q.elim
    | ct ρ g' => rw [e] at q; exact q.elim
    | bad => rw [e] at q; exact q.elim
end
/-! ### calls -/
@[simp] def callD (φ : DF) (fl : DE (List S)) : DE S := fun ρ g => (fl ρ g).bind φ
theorem ed_call {k : Nat} {fA : Addr} {fd : FuncData} {ps : List Str} {φ : DF} {x : Str} {p : Pos} {es : List Expr} (Fo : FnD X.prog X.w X.K X.mg X.base k fA fd ps φ) (hr : Room k X.A) (tk : Takes X W) (hg : Gl X x) (hm : X.mg x = some (.ref fA)) (hk : PySem.W.keepIn X.K (.ref fA) = true) (hb : Binds X.K fd ps [])
    (hn : (e :: es).length = ps.length) (hfl : ∀ ρ g ss g', fl ρ g = .ok ss g' → ss.length = (e :: es).length) (ha : LD X W (e :: es) fl) (hdb : (x == ("__debug__" : Str)) = false := by decide) (he : starEach (e :: es) X.env = (false, eval e X.env) :: starEach es X.env := by rfl) (hpl : (backTo pos (starEach es X.env)).any (·.1) = false := by rfl) :
    ED X W (.Call (.Name x p) (e :: es) [] pos) (callD φ fl) :=
  pe_weak (pe_callSD (E := fun σ => XW W σ) Fo hr hg hm hk hb .nil (fun σ => fun _ _ _ e s' I c => tk e s' (XE.of_call I (fun _ _ _ h => h) c)) ha hdb he hpl) fun σ H Q ⟨μ, F, g, ρ, r, re, q⟩ => by
    refine ⟨μ, F, g, ρ, r, re, ?_⟩
    have q' : Post (relS X.K) X.K μ F (XW W σ) ((fl ρ g).bind φ) Q := q
    cases h : fl ρ g with
    | ok ss g1 =>
      rw [h] at q'
      intro μ1 F1 H1 vs x r1 s1
      rw [List.append_nil]
      exact ⟨μ1, F1, g1, ss, r1, s1, by rw [hfl ρ g ss g1 h, hn], q'.ext x⟩
    | exc C fs g1 => rw [h] at q'; exact q'
    | bad => rw [h] at q'; exact q'.elim
theorem len_nil : ∀ ρ g ss g', nilL ρ g = .ok ss g' → ss.length = ([] : List Expr).length := fun ρ g ss g' h => by
  cases h; rfl
theorem len_cons {e : Expr} {es : List Expr} {f : DE S} {fl : DE (List S)} (h : ∀ ρ g ss g', fl ρ g = .ok ss g' → ss.length = es.length) : ∀ ρ g ss g', consL f fl ρ g = .ok ss g' → ss.length = (e :: es).length := fun ρ g ss g' q => by
  unfold consL at q
  cases e1 : f ρ g with
  | exc => rw [e1] at q; cases q
  | bad => rw [e1] at q; cases q
  | ok s g1 =>
    rw [e1] at q
    rw [R.bind_ok] at q
    cases e2 : fl ρ g1 with
    | exc => rw [e2] at q; cases q
    | bad => rw [e2] at q; cases q
    | ok xs g3 =>
      rw [e2] at q
      have z : s :: xs = ss := by injection q
      rw [← z, List.length_cons, List.length_cons, h ρ g1 xs g3 e2]
theorem ed_call0 {k : Nat} {fA : Addr} {fd : FuncData} {φ : DF} {x : Str} {p : Pos} (Fo : FnD X.prog X.w X.K X.mg X.base k fA fd [] φ) (hr : Room k X.A) (tk : Takes X W) (hg : Gl X x) (hm : X.mg x = some (.ref fA)) (hk : PySem.W.keepIn X.K (.ref fA) = true) (hb : Binds X.K fd [] [])
    (hdb : (x == ("__debug__" : Str)) = false := by decide) : ED X W (.Call (.Name x p) [] [] pos) (callD φ nilL) := by
  refine ⟨fun pins s σ H Q I ⟨μ, F, g, ρ, r, re, q⟩ => ?_⟩
  have q' : Post (relS X.K) X.K μ F (XW W σ) (φ [] g) Q := q
  have hx : PassesAt (L2.CX X.prog X.w) X σ (XW W σ) := fun _ _ _ e s' I c => tk e s' (XE.of_call I (fun _ _ _ h => h) c)
  refine wpAny_Call_Name_kw (ld_glob I hg hm ?_ hdb)
  exact PySem.W.callWith_K0 I.kIn hk (run_fnSD (E := fun σ => XW W σ) (dvs := []) (ds := []) (us := []) (vs := []) Fo hr hb .nil hx I .nil ⟨μ, F, g, [], r, .nil, rfl, q'⟩)
end
end DL
/-! DL4: built-ins, places, slices, isinstance, fields, methods of lists, comprehensions. -/
namespace DL
open PySem PySem.Spec PyProof.Rows L2

/-! ### calls of built-ins -/
/-- what a built-in's rule r says, on slots -/
def CallD (K : PySem.W.Frag) (r : List V → Hp → VK → Prop) (op : List S → G → R S) : Prop :=
  ∀ (μ : Mp) (F H : Hp) (g : G) (E : XK) (vs : List V) (ss : List S) (Q : VK), Rp K μ F H g → SnL K μ F vs ss → Post (relS K) K μ F E (op ss g) Q → r vs H Q
@[simp] def cbD (op : List S → G → R S) (fl : DE (List S)) : DE S := fun ρ g => (fl ρ g).bind op
section
variable {X : Cx} {W : WX} {e a b c : Expr} {es : List Expr} {pos p : Pos} {fl : DE (List S)} {f1 f2 : DE S} {op : List S → G → R S} {r : List V → Hp → VK → Prop} {x : Str}
theorem cb_weak (h : CallD X.K r op) : ∀ σ H Q, tD X.K W (cbD op fl) σ H Q → tCB r (tDL X.K W fl) σ H Q := fun σ H Q ⟨μ, F, g, ρ, rp, re, q⟩ =>
  ⟨μ, F, g, ρ, rp, re, (Post.step (rel := relL X.K) q).imp fun vs H1 ⟨μ1, F1, a1, g1, x1, r1, s1, p1⟩ => h μ1 F1 H1 g1 _ vs a1 Q r1 s1 p1⟩
theorem ed_cb {id : String} (hc : CallR X (.builtin id) r) (h : CallD X.K r op) (hg : Gl X x) (hm : X.mg x = none) (hv : bootBuiltins x = some (.builtin id)) (ha : LD X W (e :: es) fl) (hn : x ≠ "__name__" := by decide) (hdb : (x == ("__debug__" : Str)) = false := by decide)
    (he : starEach (e :: es) X.env = (false, eval e X.env) :: starEach es X.env := by rfl) (hpl : (backTo pos (starEach es X.env)).any (·.1) = false := by rfl) : ED X W (.Call (.Name x p) (e :: es) [] pos) (cbD op fl) :=
  pe_weak (pe_callB hc hg hm hv ha hn hdb he hpl) (cb_weak h)
theorem ed_ct {T : String} (hc : CallR X (.type T) r) (h : CallD X.K r op) (hg : Gl X x) (hm : X.mg x = none) (hv : bootBuiltins x = some (.type T)) (ha : LD X W (e :: es) fl) (hn : x ≠ "__name__" := by decide) (hdb : (x == ("__debug__" : Str)) = false := by decide)
    (he : starEach (e :: es) X.env = (false, eval e X.env) :: starEach es X.env := by rfl) (hpl : (backTo pos (starEach es X.env)).any (·.1) = false := by rfl) : ED X W (.Call (.Name x p) (e :: es) [] pos) (cbD op fl) :=
  pe_weak (pe_callTy hc hg hm hv ha hn hdb he hpl) (cb_weak h)
end
/-- one argument, read as data -/
@[simp] def un1 (f : D → Option D) : List S → G → R S := fun ss g => match ss with
  | [s] => match snap g s with
    | some x => match f x with
      | some z => .ok (.d z) g
      | none => .bad
    | none => .bad
  | _ => .bad
section
variable {K : PySem.W.Frag} {r : List V → Hp → VK → Prop} {f : D → Option D}
theorem CallD.of1 (h : ∀ (F H : Hp) (x : V) (a z : D) (Q : VK), Ex F H → Dn K H x a → f a = some z → (∀ v, Dn K F v z → Q v H) → r [x] H Q) : CallD K r (un1 f) := by
  intro μ F H g E vs ss Q rp sv p
  unfold un1 at p
  cases sv with
  | nil => exact p.elim
  | cons s1 t =>
    cases t with
    | cons => exact p.elim
    | nil =>
      rename_i v s
      dsimp only at p
      cases e1 : snap g s with
      | none => rw [e1] at p; exact p.elim
      | some x =>
        rw [e1] at p
        dsimp only at p
        cases e2 : f x with
        | none => rw [e2] at p; exact p.elim
        | some z =>
          rw [e2] at p
          exact h F H v x z Q rp.ex (snap_ok rp s1 e1) e2 fun v hv => Post.ok p rp (.d hv)
theorem CallD.of1N (h : ∀ (μ : Mp) (F H : Hp) (g : G) (x : V) (a z : D) (Q : VK), Rp K μ F H g → Dn K H x a → f a = some z → (∀ μ' F' H' v, Ext μ F μ' F' → Rp K μ' F' H' g → Dn K F' v z → Q v H') → r [x] H Q) : CallD K r (un1 f) := by
  intro μ F H g E vs ss Q rp sv p
  unfold un1 at p
  cases sv with
  | nil => exact p.elim
  | cons s1 t =>
    cases t with
    | cons => exact p.elim
    | nil =>
      rename_i v s
      dsimp only at p
      cases e1 : snap g s with
      | none => rw [e1] at p; exact p.elim
      | some x =>
        rw [e1] at p
        dsimp only at p
        cases e2 : f x with
        | none => rw [e2] at p; exact p.elim
        | some z =>
          rw [e2] at p
          exact h μ F H g v x z Q rp (snap_ok rp s1 e1) e2 fun μ' F' H' v x y z => p μ' F' H' v x y (.d z)
end
/-- DnL with what was known of H -/
theorem dn_at {K : PySem.W.Frag} {H : Hp} {v : V} {ds : List D} {d : D} (h : Dn K H v d) (e : itemsD d = some ds) : ∃ a xs, v = .ref a ∧ (SqL K H a xs ∨ SqT K H a xs) ∧ DnL K H xs ds := by
  cases h <;> first | (cases e; done) | skip
  · rename_i a xs ds' hq hd
    cases e
    exact ⟨a, xs, rfl, .inr hq, hd⟩
  · rename_i a xs ds' hq hd
    cases e
    exact ⟨a, xs, rfl, .inl (SqL.of hq), hd⟩
  · rename_i a ns hq
    cases e
    exact ⟨a, _, rfl, .inl hq, DnL.ints _⟩
@[simp] def lenD : D → Option D
  | .str x => if x.length ≤ 10000000 then some (.int x.length) else none
  | .tup ds => some (.int ds.length)
  | .lst ds => some (.int ds.length)
  | .scr ns => some (.int ns.length)
  | _ => none
theorem cd_len {K : PySem.W.Frag} : CallD K (fun xs H Q => ∃ x n, xs = [x] ∧ LenV K x H n ∧ Q (.int n) H) (un1 lenD) := CallD.of1 fun F H x a z Q ex hx e q => by
  cases hx <;> first | (cases e; done) | skip
  · rename_i y
    have e' : (if y.length ≤ 10000000 then some (D.int y.length) else none) = some z := e
    by_cases h : y.length ≤ 10000000
    · rw [if_pos h] at e'
      cases e'
      exact ⟨_, y.length, rfl, ⟨Nat.le_trans h (by decide), rfl⟩, q _ (.int _)⟩
    · rw [if_neg h] at e'; cases e'
  · rename_i a xs ds hq hd
    cases e
    exact ⟨_, ds.length, rfl, .inr ⟨xs, hq, hd.length.symm⟩, q _ (.int _)⟩
  · rename_i a xs ds hq hd
    cases e
    exact ⟨_, ds.length, rfl, .inl ⟨xs, SqL.of hq, hd.length.symm⟩, q _ (.int _)⟩
  · rename_i a ns hq
    cases e
    exact ⟨_, ns.length, rfl, .inl ⟨_, hq, by simp⟩, q _ (.int _)⟩
@[simp] def intD : D → Option D
  | .int i => some (.int i)
  | .bl b => some (.int (if b then 1 else 0))
  | _ => none
theorem cd_int {K : PySem.W.Frag} : CallD K (fun xs H Q => (∃ i, xs = [.int i] ∧ Q (.int i) H) ∨ ∃ k, xs = [.bl k] ∧ Q (.int (if k then 1 else 0)) H) (un1 intD) := CallD.of1 fun F H x a z Q ex hx e q => by
  cases hx <;> first | (cases e; done) | skip
  · cases e; exact .inr ⟨_, rfl, q _ (.int _)⟩
  · cases e; exact .inl ⟨_, rfl, q _ (.int _)⟩
@[simp] def absD : D → Option D
  | .int i => some (.int (if i < 0 then -i else i))
  | _ => none
theorem cd_abs {K : PySem.W.Frag} : CallD K (fun xs H Q => ∃ i, xs = [.int i] ∧ Q (.int (if i < 0 then -i else i)) H) (un1 absD) := CallD.of1 fun F H x a z Q ex hx e q => by
  cases hx <;> first | (cases e; done) | skip
  cases e; exact ⟨_, rfl, q _ (.int _)⟩
def intsL : List D → Option (List Int)
  | [] => some []
  | .int i :: r => (intsL r).map (i :: ·)
  | _ :: _ => none
theorem intsL_ok {K : PySem.W.Frag} {F : Hp} : ∀ {vs : List V} {ds : List D} {ns : List Int}, DnL K F vs ds → intsL ds = some ns → vs = ns.map V.int
  | _, _, _, .nil, e => by cases e; rfl
  | _, d :: ds, ns, .cons h t, e => by
    cases h <;> first | (cases e; done) | skip
    rename_i i
    have e' : (intsL ds).map (i :: ·) = some ns := e
    cases q : intsL ds with
    | none => rw [q] at e'; cases e'
    | some ms => rw [q] at e'; cases e'; rw [intsL_ok t q]; rfl
def blsL : List D → Option (List Bool)
  | [] => some []
  | .bl i :: r => (blsL r).map (i :: ·)
  | _ :: _ => none
theorem blsL_ok {K : PySem.W.Frag} {F : Hp} : ∀ {vs : List V} {ds : List D} {ns : List Bool}, DnL K F vs ds → blsL ds = some ns → vs = ns.map V.bl
  | _, _, _, .nil, e => by cases e; rfl
  | _, d :: ds, ns, .cons h t, e => by
    cases h <;> first | (cases e; done) | skip
    rename_i i
    have e' : (blsL ds).map (i :: ·) = some ns := e
    cases q : blsL ds with
    | none => rw [q] at e'; cases e'
    | some ms => rw [q] at e'; cases e'; rw [blsL_ok t q]; rfl
@[simp] theorem intsL_map (ns : List Int) : intsL (ns.map D.int) = some ns := by
  induction ns with
  | nil => rfl
  | cons n ns ih => show (intsL (ns.map D.int)).map (n :: ·) = _; rw [ih]; rfl
@[simp] theorem blsL_map (ns : List Bool) : blsL (ns.map D.bl) = some ns := by
  induction ns with
  | nil => rfl
  | cons n ns ih => show (blsL (ns.map D.bl)).map (n :: ·) = _; rw [ih]; rfl
def sumD : D → Option D
  | .lst ds => (intsL ds).map fun ns => .int ns.sum
  | .scr ns => some (.int ns.sum)
  | _ => none
theorem cd_sum {K : PySem.W.Frag} : CallD K (rSum K) (un1 sumD) := CallD.of1 fun F H x a z Q ex hx e q => by
  cases hx <;> first | (cases e; done) | skip
  · rename_i a xs ds hq hd
    have e' : ((intsL ds).map fun ns => D.int ns.sum) = some z := e
    cases h : intsL ds with
    | none => rw [h] at e'; cases e'
    | some ns =>
      rw [h] at e'; cases e'
      exact ⟨a, ns, rfl, by rw [← intsL_ok hd h]; exact SqL.of hq, q _ (.int _)⟩
  · rename_i a ns hq
    cases e
    exact ⟨a, ns, rfl, hq, q _ (.int _)⟩
def allF : D → Option D
  | .lst ds => (blsL ds).map fun ns => .bl (ns.all id)
  | _ => none
def anyF : D → Option D
  | .lst ds => (blsL ds).map fun ns => .bl (ns.any id)
  | _ => none
theorem cd_all {K : PySem.W.Frag} : CallD K (rAll K) (un1 allF) := CallD.of1 fun F H x a z Q ex hx e q => by
  cases hx <;> first | (cases e; done) | skip
  rename_i a xs ds hq hd
  have e' : ((blsL ds).map fun ns => D.bl (ns.all id)) = some z := e
  cases h : blsL ds with
  | none => rw [h] at e'; cases e'
  | some ns =>
    rw [h] at e'; cases e'
    exact ⟨a, ns, rfl, by rw [← blsL_ok hd h]; exact SqL.of hq, q _ (.bl _)⟩
theorem cd_any {K : PySem.W.Frag} : CallD K (rAny K) (un1 anyF) := CallD.of1 fun F H x a z Q ex hx e q => by
  cases hx <;> first | (cases e; done) | skip
  rename_i a xs ds hq hd
  have e' : ((blsL ds).map fun ns => D.bl (ns.any id)) = some z := e
  cases h : blsL ds with
  | none => rw [h] at e'; cases e'
  | some ns =>
    rw [h] at e'; cases e'
    exact ⟨a, ns, rfl, by rw [← blsL_ok hd h]; exact SqL.of hq, q _ (.bl _)⟩
def tupF : D → Option D
  | .lst ds => some (.tup ds)
  | .tup ds => some (.tup ds)
  | .scr ns => some (.tup (ns.map D.int))
  | _ => none
/-- a list or tuple as the list of its data -/
def readL (g : G) : S → Option (List D)
  | .d x => itemsD x
  | .c n => match g[n]? with
    | some (.lst ds) => some ds
    | _ => none
  | .i n => match g[n]? with
    | some (.tp _ cs _) => some (cs.map D.int)
    | _ => none
@[simp] theorem readL_lst (g : G) (ds : List D) : readL g (.d (.lst ds)) = some ds := rfl
@[simp] theorem readL_tup (g : G) (ds : List D) : readL g (.d (.tup ds)) = some ds := rfl
@[simp] theorem readL_scr (g : G) (ns : List Int) : readL g (.d (.scr ns)) = some (ns.map D.int) := rfl
theorem readL_ok {K : PySem.W.Frag} {μ : Mp} {F H : Hp} {g : G} (r : Rp K μ F H g) {v : V} {s : S} {ds : List D} (h : Sn K μ F v s) (e : readL g s = some ds) : ∃ a xs, v = .ref a ∧ (SqL K H a xs ∨ SqT K F a xs) ∧ DnL K F xs ds := by
  cases h with
  | d h =>
    obtain ⟨a, xs, rfl, q, d⟩ := dn_at h e
    exact ⟨a, xs, rfl, q.elim (fun z => .inl (ex_l r.ex z)) .inr, d⟩
  | @c n a l h =>
    obtain ⟨c, q, ok⟩ := r.cell h
    have e' : (match g[n]? with
      | some (.lst ds) => some ds
      | _ => none) = some ds := e
    rw [q] at e'
    cases c <;> first | (cases e'; done) | skip
    obtain ⟨b, z, _, ys, h1, h2⟩ := ok; cases z; cases e'
    exact ⟨a, ys, rfl, .inl (SqL.of h1), h2⟩
  | @i n a b l h =>
    obtain ⟨c, q, ok⟩ := r.cell h
    have e' : (match g[n]? with
      | some (.tp _ cs _) => some (cs.map D.int)
      | _ => none) = some ds := e
    rw [q] at e'
    cases c <;> first | (cases e'; done) | skip
    obtain ⟨a', b', z, _, _, _, xs, ys, h1, h2, h3, h4⟩ := ok; cases z; cases e'
    exact ⟨b, _, rfl, .inl (SqL.of h4), DnL.ints _⟩
/-- lists alone -/
def readLL (g : G) : S → Option (List D)
  | .d (.tup _) => none
  | s => readL g s
@[simp] theorem readLL_lst (g : G) (ds : List D) : readLL g (.d (.lst ds)) = some ds := rfl
@[simp] theorem readLL_scr (g : G) (ns : List Int) : readLL g (.d (.scr ns)) = some (ns.map D.int) := rfl
theorem readLL_ok {K : PySem.W.Frag} {μ : Mp} {F H : Hp} {g : G} (r : Rp K μ F H g) {v : V} {s : S} {ds : List D} (h : Sn K μ F v s) (e : readLL g s = some ds) : ∃ a xs, v = .ref a ∧ SqL K H a xs ∧ DnL K F xs ds := by
  cases h with
  | d h =>
    cases h <;> first | (cases e; done) | skip
    · cases e; exact ⟨_, _, rfl, SqL.of (r.ex _ _ (by assumption)), by assumption⟩
    · cases e; exact ⟨_, _, rfl, ex_l r.ex (by assumption), DnL.ints _⟩
  | @c n a l h =>
    obtain ⟨c, q, ok⟩ := r.cell h
    have e' : (match g[n]? with
      | some (.lst ds) => some ds
      | _ => none) = some ds := e
    rw [q] at e'
    cases c <;> first | (cases e'; done) | skip
    obtain ⟨b, z, _, ys, h1, h2⟩ := ok; cases z; cases e'
    exact ⟨a, ys, rfl, SqL.of h1, h2⟩
  | @i n a b l h =>
    obtain ⟨c, q, ok⟩ := r.cell h
    have e' : (match g[n]? with
      | some (.tp _ cs _) => some (cs.map D.int)
      | _ => none) = some ds := e
    rw [q] at e'
    cases c <;> first | (cases e'; done) | skip
    obtain ⟨a', b', z, _, _, _, xs, ys, h1, h2, h3, h4⟩ := ok; cases z; cases e'
    exact ⟨b, _, rfl, SqL.of h4, DnL.ints _⟩
theorem lt_or {K : PySem.W.Frag} {F H : Hp} {a : Addr} {xs : List V} (e : Ex F H) (q : SqL K H a xs ∨ SqT K F a xs) : SqL K H a xs ∨ SqT K H a xs := q.elim .inl fun z => .inr (ex_t e z)
/-- one argument, read as a list of data; a value back -/
def rd1 (f : List D → Option D) : List S → G → R S := fun ss g => match ss with
  | [s] => match readL g s with
    | some ds => match f ds with
      | some z => .ok (.d z) g
      | none => .bad
    | none => .bad
  | _ => .bad
section
variable {K : PySem.W.Frag} {r : List V → Hp → VK → Prop} {f : List D → Option D}
theorem CallD.ofL (h : ∀ (μ : Mp) (F H : Hp) (g : G) (a : Addr) (xs : List V) (ds : List D) (z : D) (Q : VK), Rp K μ F H g → (SqL K H a xs ∨ SqT K F a xs) → DnL K F xs ds → f ds = some z → (∀ μ' F' H' v, Ext μ F μ' F' → Rp K μ' F' H' g → Dn K F' v z → Q v H') → r [.ref a] H Q) : CallD K r (rd1 f) := by
  intro μ F H g E vs ss Q rp sv p
  unfold rd1 at p
  cases sv with
  | nil => exact p.elim
  | cons s1 t =>
    cases t with
    | cons => exact p.elim
    | nil =>
      rename_i v s
      dsimp only at p
      cases e1 : readL g s with
      | none => rw [e1] at p; exact p.elim
      | some ds =>
        rw [e1] at p
        dsimp only at p
        cases e2 : f ds with
        | none => rw [e2] at p; exact p.elim
        | some z =>
          rw [e2] at p
          obtain ⟨a, xs, rfl, q, hd⟩ := readL_ok rp s1 e1
          exact h μ F H g a xs ds z Q rp q hd e2 fun μ' F' H' v x y z => p μ' F' H' v x y (.d z)
end
/-- tuple(x), list(x) (frozen) -/
def tupC : List S → G → R S := rd1 fun ds => some (.tup ds)
def lstC : List S → G → R S := rd1 fun ds => some (.lst ds)
theorem cd_tuple {K : PySem.W.Frag} : CallD K (fun xs H Q => ∃ a ys, xs = [.ref a] ∧ ((SqL K H a ys ∧ ∀ l, H l = none → Q (.ref l) (upd H l (.tup ys))) ∨ (SqT K H a ys ∧ Q (.ref a) H))) tupC := CallD.ofL fun μ F H g a xs ds z Q rp q hd e k => by
  cases e
  refine ⟨a, xs, rfl, q.elim (fun z => .inl ⟨z, fun l hl => ?_⟩) fun z => .inr ⟨ex_t rp.ex z, ?_⟩⟩
  · exact k μ _ _ _ (Ext.new (rp.fresh hl)) (rp.new hl) (.tup (SqT.of upd_same) (hd.mono (Ext.new (μ := μ) (rp.fresh hl)).f))
  · exact k μ _ _ _ (.refl _ _) rp (.tup z hd)
theorem cd_list {K : PySem.W.Frag} : CallD K (fun xs H Q => ∃ p ys, xs = [.ref p] ∧ (SqL K H p ys ∨ SqT K H p ys) ∧ ∀ l, H l = none → Q (.ref l) (upd H l (.lst ys))) lstC := CallD.ofL fun μ F H g a xs ds z Q rp q hd e k => by
  cases e
  exact ⟨a, xs, rfl, lt_or rp.ex q, fun l hl => k μ _ _ _ (Ext.new (rp.fresh hl)) (rp.new hl) (.lst upd_same (hd.mono (Ext.new (μ := μ) (rp.fresh hl)).f))⟩
/-- list(x) as a new cell -/
def lstCC : List S → G → R S := fun ss g => match ss with
  | [s] => match readL g s with
    | some ds => .ok (.c g.length) (g ++ [.lst ds])
    | none => .bad
  | _ => .bad
theorem cd_listC {K : PySem.W.Frag} : CallD K (fun xs H Q => ∃ p ys, xs = [.ref p] ∧ (SqL K H p ys ∨ SqT K H p ys) ∧ ∀ l, H l = none → Q (.ref l) (upd H l (.lst ys))) lstCC := by
  intro μ F H g E vs ss Q rp sv p
  unfold lstCC at p
  cases sv with
  | nil => exact p.elim
  | cons s1 t =>
    cases t with
    | cons => exact p.elim
    | nil =>
      rename_i v s
      dsimp only at p
      cases e1 : readL g s with
      | none => rw [e1] at p; exact p.elim
      | some ds =>
        rw [e1] at p
        obtain ⟨a, xs, rfl, q, hd⟩ := readL_ok rp s1 e1
        exact ⟨a, xs, rfl, lt_or rp.ex q, fun l hl => p (μ ++ [[l]]) F _ _ Ext.push (rp.push hl ⟨l, rfl, rp.fresh hl, _, upd_same, hd⟩) (.c (l := []) (by rw [← rp.len]; simp))⟩
/-! ### a[i] -/
/-- a place of a list, counted from behind below 0 -/
def ixF (n : Nat) (i : Int) : Option Nat := ixN n i
theorem DnL.at {K : PySem.W.Frag} {F : Hp} {xs : List V} {ds : List D} {i : Int} {d : D} (h : DnL K F xs ds) (e : atI ds i = some d) : ∃ v, atI xs i = some v ∧ Dn K F v d := by
  unfold atI at e ⊢
  rw [h.length]
  cases q : ixN ds.length i with
  | none => rw [q] at e; cases e
  | some j => rw [q] at e; exact h.get e
/-- what stands in a tape's list: its ints and data; the inner list -/
def tpAt (n : Nat) (pre : List D) (post : List D) (i : Int) : Option S :=
  match ixN (pre.length + 1 + post.length) i with
  | some j => if j < pre.length then (pre[j]?).map S.d else if j = pre.length then some (.i n) else (post[j - pre.length - 1]?).map S.d
  | none => none
def ixS : S → S → G → R S := fun s i g => match i with
  | .d (.int k) => match s with
    | .d (.str z) => if z.length ≤ 10000000 then (match atI z.cps.toList k with
      | some c => .ok (.d (.str ⟨#[c]⟩)) g
      | none => .bad) else .bad
    | .c n => match g[n]? with
      | some (.lst ds) => match atI ds k with
        | some x => .ok (.d x) g
        | none => .bad
      | some (.tp pre _ post) => match tpAt n pre post k with
        | some x => .ok x g
        | none => .bad
      | _ => .bad
    | s => match readL g s with
      | some ds => match atI ds k with
        | some x => .ok (.d x) g
        | none => .bad
      | none => .bad
  | _ => .bad
theorem opd_ix {K : PySem.W.Frag} : OpD K (rIx K) ixS := by
  intro μ F H g E x y a b Q rp sx sy p
  unfold ixS at p
  have rd : ∀ {s : S} {k : Int} {x : V}, Sn K μ F x s → Post (relS K) K μ F E (match readL g s with
      | some ds => match atI ds k with
        | some x => .ok (.d x) g
        | none => .bad
      | none => .bad) Q → rIx K x (.int k) H Q := fun {s k x} sx p => by
    cases e1 : readL g s with
    | none => rw [e1] at p; exact p.elim
    | some ds =>
      rw [e1] at p
      dsimp only at p
      cases e2 : atI ds k with
      | none => rw [e2] at p; exact p.elim
      | some d =>
        rw [e2] at p
        obtain ⟨a, xs, rfl, q, hd⟩ := readL_ok rp sx e1
        obtain ⟨v, h1, h2⟩ := hd.at e2
        have z : Q v H := Post.ok p rp (.d h2)
        rcases q with q | q
        · exact .inl ⟨a, xs, k, v, rfl, rfl, q, h1, z⟩
        · exact .inr (.inl ⟨a, xs, k, v, rfl, rfl, ex_t rp.ex q, h1, z⟩)
  cases sy with
  | c h => exact p.elim
  | i h => exact p.elim
  | d hy =>
    cases hy <;> first | exact False.elim p | skip
    rename_i k
    dsimp only at p
    split at p
    · rename_i z
      cases sx with
      | d hx =>
        cases hx
        split at p
        · rename_i hz
          split at p
          · rename_i c hc
            exact .inr (.inr ⟨z, k, c, rfl, rfl, Nat.le_trans hz (by decide), hc, Post.ok p rp (.d (.str _))⟩)
          · exact p.elim
        · exact p.elim
    · rename_i n
      cases sx with
      | @c _ a l h =>
        obtain ⟨c, q, ok⟩ := rp.cell h
        rw [q] at p
        cases c with
        | dead => exact p.elim
        | ins => exact p.elim
        | dk => exact p.elim
        | lst ds =>
          refine rd (s := .c n) (.c h) ?_
          show Post (relS K) K μ F E (match (match g[n]? with
            | some (.lst ds) => some ds
            | _ => none) with
            | some ds => match atI ds k with
              | some x => .ok (.d x) g
              | none => .bad
            | none => .bad) Q
          rw [q]
          exact p
        | tp pre cs post =>
          dsimp only at p
          obtain ⟨a', b', z, _, _, _, xs, ys, h1, h2, h3, h4⟩ := ok
          cases z
          split at p
          · rename_i x hx
            unfold tpAt at hx
            have len : (xs ++ V.ref b' :: ys).length = pre.length + 1 + post.length := by
              rw [List.length_append, List.length_cons, h2.length, h3.length]; omega
            cases e : ixN (pre.length + 1 + post.length) k with
            | none => rw [e] at hx; cases hx
            | some j =>
              rw [e] at hx
              dsimp only at hx
              have at' : ∀ {v : V}, (xs ++ V.ref b' :: ys)[j]? = some v → Q v H → rIx K (.ref a) (.int k) H Q := fun {v} hv q => .inl ⟨a, _, k, v, rfl, rfl, SqL.of h1, by unfold atI; rw [len, e]; exact hv, q⟩
              by_cases c1 : j < pre.length
              · rw [if_pos c1] at hx
                cases e3 : pre[j]? with
                | none => rw [e3] at hx; cases hx
                | some d =>
                  rw [e3] at hx; cases hx
                  obtain ⟨v, h5, h6⟩ := h2.get e3
                  exact at' (by rw [List.getElem?_append_left (by rw [h2.length]; exact c1)]; exact h5) (Post.ok p rp (.d h6))
              · rw [if_neg c1] at hx
                by_cases c2 : j = pre.length
                · rw [if_pos c2] at hx
                  cases hx
                  exact at' (v := .ref b') (by rw [List.getElem?_append_right (by rw [h2.length]; omega), h2.length, c2]; simp) (Post.ok p rp (.i h))
                · rw [if_neg c2] at hx
                  cases e3 : post[j - pre.length - 1]? with
                  | none => rw [e3] at hx; cases hx
                  | some d =>
                    rw [e3] at hx; cases hx
                    obtain ⟨v, h5, h6⟩ := h3.get e3
                    refine at' (v := v) ?_ (Post.ok p rp (.d h6))
                    rw [List.getElem?_append_right (by rw [h2.length]; omega), h2.length]
                    have : j - pre.length = (j - pre.length - 1) + 1 := by omega
                    rw [this, List.getElem?_cons_succ]
                    exact h5
          · exact p.elim
    · exact rd sx p
section
variable {X : Cx} {W : WX} {e a b c : Expr} {es : List Expr} {pos p : Pos} {fl : DE (List S)} {f f1 f2 : DE S}
theorem ed_ix (h1 : ED X W a f1) (h2 : ED X W b f2) (hs : PlainIx b := by intro _ _; rfl) : ED X W (.Subscript a b pos) (bin2 f1 f2 ixS) := ed_bin (fun _ _ p q => pe_ix ix_seq p q hs) h1 h2 opd_ix
/-! ### slices -/
def tOD (K : PySem.W.Frag) (W : WX) (f : DE (Option Int)) : TO := fun σ H Q => ∃ μ F g ρ, Rp K μ F H g ∧ Re K μ F σ ρ ∧ Post (fun _ _ (x : Option Int) y => x = y) K μ F (XW W σ) (f ρ g) Q
def OD (X : Cx) (W : WX) (e : Option Expr) (f : DE (Option Int)) : Prop := PO X e (tOD X.K W f)
@[simp] def noO : DE (Option Int) := fun _ g => .ok none g
@[simp] def someO (f : DE S) : DE (Option Int) := fun ρ g => (f ρ g).bind fun s g1 => match s with
  | .d (.int i) => .ok (some i) g1
  | _ => .bad
theorem po_weak {X : Cx} {e : Option Expr} {t t' : TO} (h : PO X e t) (k : ∀ σ H Q, t' σ H Q → t σ H Q) : PO X e t' := ⟨fun pins s σ H Q I q => h.run pins s σ H Q I (k σ H Q q)⟩
theorem od_none : OD X W none noO := po_weak po_none fun σ H Q ⟨μ, F, g, ρ, r, re, q⟩ => Post.ok q r rfl
theorem od_some (h : ED X W e f) : OD X W (some e) (someO f) := po_weak (po_some h) fun σ H Q ⟨μ, F, g, ρ, r, re, q⟩ => by
  obtain ⟨μ0, F0, g0, ρ0, r0, re0, p0⟩ := tD.step r re q
  refine ⟨μ0, F0, g0, ρ0, r0, re0, p0.imp fun x H1 ⟨μ1, F1, a1, g1, r1, re1, s1, p1⟩ => ?_⟩
  cases a1 with
  | c n => exact p1.elim
  | i n => exact p1.elim
  | d d =>
    cases d <;> first | exact False.elim p1 | skip
    cases s1 with
    | d s1 => cases s1; exact ⟨_, rfl, Post.ok p1 r1 rfl⟩
def cutL {α : Type} (xs : List α) (lo hi : Option Int) : List α := (xs.drop (HT.sIx xs.length 0 lo)).take (HT.sIx xs.length xs.length hi - HT.sIx xs.length 0 lo)
def slD (f : DE S) (fl fh : DE (Option Int)) : DE S := fun ρ g => (f ρ g).bind fun s g1 => (fl ρ g1).bind fun lo g2 => (fh ρ g2).bind fun hi g3 => match s with
  | .d (.tup ds) => .ok (.d (.tup (cutL ds lo hi))) g3
  | .d (.str z) => if z.length ≤ 10000000 then .ok (.d (.str (cutS z lo hi))) g3 else .bad
  | s => match readLL g3 s with
    | some ds => .ok (.d (.lst (cutL ds lo hi))) g3
    | none => .bad
def rSlX (K : PySem.W.Frag) : V → Option Int → Option Int → Hp → VK → Prop := fun x lo hi H Q => rSlL K x lo hi H Q ∨ (rSlA K x lo hi H Q ∨ rSlS x lo hi H Q)
theorem sl_x : SlR X (rSlX X.K) := sl_list.or (sl_tupA.or sl_str)
theorem DnL.cut {K : PySem.W.Frag} {F : Hp} {xs : List V} {ds : List D} (h : DnL K F xs ds) (lo hi : Option Int) : DnL K F (cutV xs lo hi) (cutL ds lo hi) := by
  unfold cutV cutL
  rw [h.length]
  exact (h.drop _).take _
theorem ed_sl {lo hi : Option Expr} {fl fh : DE (Option Int)} {p2 : Pos} (h : ED X W e f) (hl : OD X W lo fl) (hh : OD X W hi fh) : ED X W (.Subscript e (.Slice lo hi none p2) pos) (slD f fl fh) :=
  pe_weak (pe_slice sl_x h hl hh) fun σ H Q ⟨μ, F, g, ρ, r, re, q⟩ => by
    obtain ⟨μ0, F0, g0, ρ0, r0, re0, p0⟩ := tD.step r re q
    refine ⟨μ0, F0, g0, ρ0, r0, re0, p0.imp fun x H1 ⟨μ1, F1, a1, g1, r1, re1, s1, p1⟩ => ?_⟩
    refine ⟨μ1, F1, g1, ρ, r1, re1, (Post.step (rel := fun _ _ (x : Option Int) y => x = y) p1).imp fun l H2 ⟨μ2, F2, a2, g2, x2, r2, s2, p2⟩ => ?_⟩
    cases s2
    refine ⟨μ2, F2, g2, ρ, r2, re1.mono x2, (Post.step (rel := fun _ _ (x : Option Int) y => x = y) p2).imp fun u H3 ⟨μ3, F3, a3, g3, x3, r3, s3, p3⟩ => ?_⟩
    cases s3
    have sx := s1.mono (x2.trans x3)
    have lst : ∀ {ds : List D}, readLL g3 a1 = some ds → Post (relS X.K) X.K μ3 F3 (XW W σ) (.ok (.d (.lst (cutL ds l u))) g3) Q → rSlX X.K x l u H3 Q := fun {ds} e1 p3 => by
      obtain ⟨a, xs, rfl, q, hd⟩ := readLL_ok r3 sx e1
      refine .inl ⟨a, xs, rfl, q, fun p hp => ?_⟩
      exact p3 μ3 _ _ _ (Ext.new (r3.fresh hp)) (r3.new hp) (.d (.lst upd_same ((hd.cut l u).mono (Ext.new (μ := μ3) (r3.fresh hp)).f)))
    have other : Post (relS X.K) X.K μ3 F3 (XW W σ) (match readLL g3 a1 with
      | some ds => .ok (.d (.lst (cutL ds l u))) g3
      | none => .bad) Q → rSlX X.K x l u H3 Q := fun p3 => by
      cases e1 : readLL g3 a1 with
      | none => rw [e1] at p3; exact p3.elim
      | some ds => rw [e1] at p3; exact lst e1 p3
    cases a1 with
    | c n => exact other p3
    | i n => exact other p3
    | d d =>
      cases d with
      | tup ds =>
        cases sx with
        | d hx =>
          cases hx with
          | @tup a xs _ hq hd =>
            refine .inr (.inl ⟨a, xs, rfl, ex_t r3.ex hq, fun hw => ?_, fun hw p hp => ?_⟩)
            · have e : cutL ds l u = ds := by
                unfold cutL
                rw [← hd.length, hw.1, hw.2]
                simp [hd.length]
              dsimp only at p3
              rw [e] at p3
              exact Post.ok p3 r3 (.d (.tup hq hd))
            · exact p3 μ3 _ _ _ (Ext.new (r3.fresh hp)) (r3.new hp) (.d (.tup (SqT.of upd_same) ((hd.cut l u).mono (Ext.new (μ := μ3) (r3.fresh hp)).f)))
      | str z =>
        cases sx with
        | d hx =>
          cases hx
          dsimp only at p3
          by_cases hz : z.length ≤ 10000000
          · rw [if_pos hz] at p3
            exact .inr (.inr ⟨z, rfl, Nat.le_trans hz (by decide), Post.ok p3 r3 (.d (.str _))⟩)
          · rw [if_neg hz] at p3; exact p3.elim
      | _ => exact other p3
end
end DL
/-! DL5: +, chains, in, is None, isinstance, fields, list methods, stores to places, comprehensions. -/
namespace DL
open PySem PySem.Spec PyProof.Rows L2
section
variable {X : Cx} {W : WX} {e a b c o : Expr} {es : List Expr} {pos p p2 : Pos} {fl : DE (List S)} {f f1 f2 f3 : DE S}
theorem opr_or {h : Value → Value → Sem Value} {r r' : R2} (h1 : OpR X h r) (h2 : OpR X h r') : OpR X h (fun x y H Q => r x y H Q ∨ r' x y H Q) := by
  intro pins s σ H x y v u Q I rx ry q
  rcases q with q | q
  · exact h1 pins s σ H x y v u Q I rx ry q
  · exact h2 pins s σ H x y v u Q I rx ry q
/-! ### + -/
/-- a list that is tracked by itself -/
def readT (g : G) : S → Option (List D)
  | .d (.lst ds) => some ds
  | .d _ => none
  | s => readL g s
theorem readT_ok {K : PySem.W.Frag} {μ : Mp} {F H : Hp} {g : G} (r : Rp K μ F H g) {v : V} {s : S} {ds : List D} (h : Sn K μ F v s) (e : readT g s = some ds) : ∃ a xs, v = .ref a ∧ H a = some (.lst xs) ∧ DnL K F xs ds := by
  cases h with
  | d h =>
    cases h <;> first | (cases e; done) | skip
    cases e; exact ⟨_, _, rfl, r.ex _ _ (by assumption), by assumption⟩
  | @c n a l h =>
    obtain ⟨c, q, ok⟩ := r.cell h
    have e' : (match g[n]? with
      | some (.lst ds) => some ds
      | _ => none) = some ds := e
    rw [q] at e'
    cases c <;> first | (cases e'; done) | skip
    obtain ⟨b, z, _, ys, h1, h2⟩ := ok; cases z; cases e'
    exact ⟨a, ys, rfl, h1, h2⟩
  | @i n a b l h =>
    obtain ⟨c, q, ok⟩ := r.cell h
    have e' : (match g[n]? with
      | some (.tp _ cs _) => some (cs.map D.int)
      | _ => none) = some ds := e
    rw [q] at e'
    cases c <;> first | (cases e'; done) | skip
    obtain ⟨a', b', z, _, _, _, xs, ys, h1, h2, h3, h4⟩ := ok; cases z; cases e'
    exact ⟨b, _, rfl, h4, DnL.ints _⟩
def addS : S → S → G → R S := fun a b g => match a, b with
  | .d (.int i), .d (.int j) => .ok (.d (.int (i + j))) g
  | .d (.str x), .d (.str y) => if x.length + y.length ≤ 10000000 then .ok (.d (.str (x ++ y))) g else .bad
  | .d (.tup xs), .d (.tup ys) => if xs.length + ys.length ≤ 10000000 then .ok (.d (.tup (xs ++ ys))) g else .bad
  | a, b => match readT g a, readT g b with
    | some xs, some ys => if xs.length + ys.length ≤ 10000000 then .ok (.d (.lst (xs ++ ys))) g else .bad
    | _, _ => .bad
def rAddX (K : PySem.W.Frag) : R2 := fun x y H Q => rI0 (fun i j => .int (i + j)) x y H Q ∨ (rCatA K x y H Q ∨ (rCat x y H Q ∨ (fun x y H Q => ∃ i j, x = .str i ∧ y = .str j ∧ i.length + j.length ≤ sizeLine ∧ Q (.str (i ++ j)) H) x y H Q))
theorem op_addX : OpR X (binaryOp .Add) (rAddX X.K) := opr_or op_add (opr_or op_catA (opr_or op_cat op_add_str))
theorem big_le {n : Nat} (h : n ≤ 10000000) : n ≤ sizeLine := Nat.le_trans h (by decide)
theorem opd_addX {K : PySem.W.Frag} : OpD K (rAddX K) addS := by
  intro μ F H g E x y a b Q rp sx sy p
  have lst : Post (relS K) K μ F E (match readT g a, readT g b with
    | some xs, some ys => if xs.length + ys.length ≤ 10000000 then .ok (.d (.lst (xs ++ ys))) g else .bad
    | _, _ => .bad) Q → rAddX K x y H Q := fun p => by
    cases e1 : readT g a with
    | none => rw [e1] at p; exact p.elim
    | some xs =>
      cases e2 : readT g b with
      | none => rw [e1, e2] at p; exact p.elim
      | some ys =>
        rw [e1, e2] at p
        dsimp only at p
        by_cases hl : xs.length + ys.length ≤ 10000000
        · rw [if_pos hl] at p
          obtain ⟨l, vs, rfl, h1, d1⟩ := readT_ok rp sx e1
          obtain ⟨l2, ws, rfl, h2, d2⟩ := readT_ok rp sy e2
          refine .inr (.inr (.inl ⟨l, l2, vs, ws, rfl, rfl, h1, h2, by rw [d1.length, d2.length]; exact big_le hl, fun q hq => ?_⟩))
          exact p μ _ _ _ (Ext.new (rp.fresh hq)) (rp.new hq) (.d (.lst upd_same ((d1.append d2).mono (Ext.new (μ := μ) (rp.fresh hq)).f)))
        · rw [if_neg hl] at p; exact p.elim
  unfold addS at p
  cases a with
  | c n => exact lst p
  | i n => exact lst p
  | d d =>
    cases b with
    | c n => cases d <;> exact lst p
    | i n => cases d <;> exact lst p
    | d d' =>
      cases d with
      | int i =>
        cases d' with
        | int j =>
          cases sx with
          | d hx =>
            cases hx
            cases sy with
            | d hy => cases hy; exact .inl ⟨_, _, rfl, rfl, Post.ok p rp (.d (.int _))⟩
        | _ => exact lst p
      | str s =>
        cases d' with
        | str t =>
          dsimp only at p
          by_cases hl : s.length + t.length ≤ 10000000
          · rw [if_pos hl] at p
            cases sx with
            | d hx =>
              cases hx
              cases sy with
              | d hy => cases hy; exact .inr (.inr (.inr ⟨_, _, rfl, rfl, big_le hl, Post.ok p rp (.d (.str _))⟩))
          · rw [if_neg hl] at p; exact p.elim
        | _ => exact lst p
      | tup xs =>
        cases d' with
        | tup ys =>
          dsimp only at p
          by_cases hl : xs.length + ys.length ≤ 10000000
          · rw [if_pos hl] at p
            cases sx with
            | d hx =>
              cases hx with
              | @tup a vs _ h1 d1 =>
                cases sy with
                | d hy =>
                  cases hy with
                  | @tup b ws _ h2 d2 =>
                    refine .inr (.inl ⟨a, b, vs, ws, rfl, rfl, ex_t rp.ex h1, ex_t rp.ex h2, by rw [d1.length, d2.length]; exact big_le hl, fun z => ?_, fun _ z => ?_, fun _ _ q hq => ?_⟩)
                    · have z' : xs = [] := List.eq_nil_of_length_eq_zero (by rw [← d1.length, z]; rfl)
                      subst z'
                      exact Post.ok p rp (.d (.tup h2 d2))
                    · have z' : ys = [] := List.eq_nil_of_length_eq_zero (by rw [← d2.length, z]; rfl)
                      subst z'
                      rw [List.append_nil] at p
                      exact Post.ok p rp (.d (.tup h1 d1))
                    · exact p μ _ _ _ (Ext.new (rp.fresh hq)) (rp.new hq) (.d (.tup (SqT.of upd_same) ((d1.append d2).mono (Ext.new (μ := μ) (rp.fresh hq)).f)))
          · rw [if_neg hl] at p; exact p.elim
        | _ => exact lst p
      | _ => exact lst p
theorem ed_addX (h1 : ED X W a f1) (h2 : ED X W b f2) : ED X W (.BinOp a .Add b pos) (bin2 f1 f2 addS) := ed_bin (fun _ _ p q => pe_op op_addX p q) h1 h2 opd_addX
/-! ### chains -/
def chD (o1 o2 : S → S → G → R S) (f1 f2 f3 : DE S) : DE S := fun ρ g => (f1 ρ g).bind fun x g1 => (f2 ρ g1).bind fun y g2 => (o1 x y g2).bind fun z g3 => match z with
  | .d (.bl true) => (f3 ρ g3).bind fun w g4 => o2 y w g4
  | .d (.bl false) => .ok (.d (.bl false)) g3
  | _ => .bad
theorem ch_ok {r r' : R2} {o1 o2 : S → S → G → R S} (hop : OpD X.K r o1) (hop' : OpD X.K r' o2) {σ : St} {H : Hp} {Q : VK} {μ : Mp} {F : Hp} {g : G} {ρ : Env} (r0 : Rp X.K μ F H g) (re : Re X.K μ F σ ρ) (q : Post (relS X.K) X.K μ F (XW W σ) (chD o1 o2 f1 f2 f3 ρ g) Q) :
    tChain r r' (tD X.K W f1) (tD X.K W f2) (tD X.K W f3) σ H Q := by
  obtain ⟨μ0, F0, g0, ρ0, r0, re0, p0⟩ := tD.step r0 re q
  refine ⟨μ0, F0, g0, ρ0, r0, re0, p0.imp fun x H1 ⟨μ1, F1, a1, g1, r1, re1, s1, p1⟩ => ?_⟩
  refine ⟨μ1, F1, g1, ρ, r1, re1, ?_⟩
  refine p1.step.imp fun y H2 ⟨μ3, F3, b3, g3, x3, r3, s3, p3⟩ => hop μ3 F3 H2 g3 _ x y a1 b3 _ r3 (s1.mono x3) s3 ((Post.step (rel := relS X.K) p3).imp fun z H4 ⟨μ4, F4, z4, g4, x4, r4, s4, p4⟩ => ?_)
  cases z4 with
  | c n => exact p4.elim
  | i n => exact p4.elim
  | d d =>
    cases d <;> first | exact False.elim p4 | skip
    rename_i k
    cases s4 with
    | d s4 =>
      cases s4
      refine ⟨k, rfl, ?_⟩
      cases k with
      | false => exact Post.ok p4 r4 (.d (.bl _))
      | true =>
        refine ⟨μ4, F4, g4, ρ, r4, (re1.mono x3).mono x4, ?_⟩
        exact (Post.step (rel := relS X.K) p4).imp fun w H5 ⟨μ5, F5, w5, g5, x5, r5, s5, p5⟩ => hop' μ5 F5 H5 g5 _ y w b3 w5 _ r5 ((s3.mono x4).mono x5) s5 p5
theorem ed_chain {op op' : CmpOp} {r r' : R2} {o1 o2 : S → S → G → R S} (ho : OpR X (compareOp op) r) (ho' : OpR X (compareOp op') r') (hop : OpD X.K r o1) (hop' : OpD X.K r' o2) (h1 : ED X W a f1) (h2 : ED X W b f2) (h3 : ED X W c f3)
    (hm : lastMarks [op, op'] [b, c] = false := by with_unfolding_all rfl) : ED X W (.Compare a [op, op'] [b, c] pos) (chD o1 o2 f1 f2 f3) :=
  pe_weak (pe_chain ho ho' h1 h2 h3 hm) fun σ H Q ⟨μ, F, g, ρ, r, re, q⟩ => ch_ok hop hop' r re q
theorem td_chain {op op' : CmpOp} {r r' : R2} {o1 o2 : S → S → G → R S} (ho : OpR X (compareOp op) r) (ho' : OpR X (compareOp op') r') (hop : OpD X.K r o1) (hop' : OpD X.K r' o2) (h1 : ED X W a f1) (h2 : ED X W b f2) (h3 : ED X W c f3)
    (hm : lastMarks [op, op'] [b, c] = false := by with_unfolding_all rfl) : TD X W (.Compare a [op, op'] [b, c] pos) (asB (chD o1 o2 f1 f2 f3)) :=
  pt_weak (pt_chain ho ho' h1 h2 h3 hm) fun σ H Q ⟨μ, F, g, ρ, r, re, q⟩ => ch_ok hop hop' r re (asB_post q)
/-! ### in, is None -/
def toV : D → Option V
  | .non => some .non
  | .bl b => some (.bl b)
  | .int i => some (.int i)
  | .str x => some (.str x)
  | _ => none
def toVL : List D → Option (List V)
  | [] => some []
  | d :: ds => match toV d, toVL ds with
    | some x, some xs => some (x :: xs)
    | _, _ => none
theorem toV_ok {K : PySem.W.Frag} {F : Hp} {v w : V} {d : D} (h : Dn K F v d) (e : toV d = some w) : v = w ∧ flatV v = true := by
  cases h <;> first | (cases e; exact ⟨rfl, rfl⟩) | (cases e; done)
theorem toVL_ok {K : PySem.W.Frag} {F : Hp} : ∀ {vs ws : List V} {ds : List D}, DnL K F vs ds → toVL ds = some ws → vs = ws ∧ vs.all flatV = true
  | _, _, _, .nil, e => by cases e; exact ⟨rfl, rfl⟩
  | _, ws, d :: ds, .cons h t, e => by
    unfold toVL at e
    cases e1 : toV d with
    | none => rw [e1] at e; cases e
    | some x =>
      cases e2 : toVL ds with
      | none => rw [e1, e2] at e; cases e
      | some xs =>
        rw [e1, e2] at e; cases e
        obtain ⟨rfl, h1⟩ := toV_ok h e1
        obtain ⟨rfl, h2⟩ := toVL_ok t e2
        exact ⟨rfl, by rw [List.all_cons, h1, h2]; rfl⟩
/-- x in xs: flat things -/
def inF (neg : Bool) : S → S → G → R S := fun a b g => match snap g a, readL g b with
  | some x, some ds => match toV x, toVL ds with
    | some v, some ws => .ok (.d (.bl (if neg then !inV v ws else inV v ws))) g
    | _, _ => .bad
  | _, _ => .bad
theorem opd_in {K : PySem.W.Frag} {neg : Bool} : OpD K (rIn K neg) (inF neg) := by
  intro μ F H g E x y a b Q rp sx sy p
  unfold inF at p
  cases e1 : snap g a with
  | none => rw [e1] at p; exact p.elim
  | some d =>
    cases e2 : readL g b with
    | none => rw [e1, e2] at p; exact p.elim
    | some ds =>
      rw [e1, e2] at p
      dsimp only at p
      cases e3 : toV d with
      | none => rw [e3] at p; exact p.elim
      | some v =>
        cases e4 : toVL ds with
        | none => rw [e3, e4] at p; exact p.elim
        | some ws =>
          rw [e3, e4] at p
          obtain ⟨rfl, h1⟩ := toV_ok (snap_ok rp sx e1) e3
          obtain ⟨t, xs, rfl, q, hd⟩ := readL_ok rp sy e2
          obtain ⟨rfl, h2⟩ := toVL_ok hd e4
          exact ⟨t, xs, rfl, lt_or rp.ex q, h1, h2, Post.ok p rp (.d (.bl _))⟩
def isNF (neg : Bool) : S → S → G → R S := fun a b g => match b with
  | .d .non => match a with
    | .d .non => .ok (.d (.bl (!neg))) g
    | _ => .ok (.d (.bl neg)) g
  | _ => .bad
theorem opd_isN {K : PySem.W.Frag} : OpD K (fun x y H Q => y = .non ∧ Q (.bl (decide (x = .non))) H) (isNF false) := by
  intro μ F H g E x y a b Q rp sx sy p
  unfold isNF at p
  cases sy with
  | c => exact p.elim
  | i => exact p.elim
  | d hy =>
    cases hy <;> first | exact False.elim p | skip
    refine ⟨rfl, ?_⟩
    cases sx with
    | c h => exact Post.ok p rp (.d (.bl _))
    | i h => exact Post.ok p rp (.d (.bl _))
    | d hx => cases hx <;> exact Post.ok p rp (.d (.bl _))
theorem opd_notN {K : PySem.W.Frag} : OpD K (fun x y H Q => y = .non ∧ Q (.bl (!decide (x = .non))) H) (isNF true) := by
  intro μ F H g E x y a b Q rp sx sy p
  unfold isNF at p
  cases sy with
  | c => exact p.elim
  | i => exact p.elim
  | d hy =>
    cases hy <;> first | exact False.elim p | skip
    refine ⟨rfl, ?_⟩
    cases sx with
    | c h => exact Post.ok p rp (.d (.bl _))
    | i h => exact Post.ok p rp (.d (.bl _))
    | d hx => cases hx <;> exact Post.ok p rp (.d (.bl _))
/-! ### isinstance -/
@[simp] def tyD : D → Option String
  | .non => some "NoneType"
  | .bl _ => some "bool"
  | .int _ => some "int"
  | .str _ => some "str"
  | .tup _ => some "tuple"
  | .lst _ => some "list"
  | .scr _ => some "list"
  | .dct _ => some "dict"
  | _ => none
theorem tyD_ok {K : PySem.W.Frag} {H : Hp} {v : V} {d : D} {T : String} (h : Dn K H v d) (e : tyD d = some T) : TyX K H v (.type T) := by
  cases h <;> first | (cases e; done) | skip
  · cases e; exact .base .non
  · cases e; exact .base (.bl _)
  · cases e; exact .base (.int _)
  · cases e; exact .base (.str _)
  · rename_i hq hd
    cases e
    rcases hq with (hq | ⟨o, hq⟩) | ⟨o, its, n, hq, hc, _⟩
    · exact .base (.tup hq)
    · exact .fTuple hq
    · exact .kTuple hq hc
  · rename_i hq hd
    cases e
    exact .base (.lst hq)
  · rename_i hq
    cases e
    rcases hq with (hq | ⟨o, hq⟩) | ⟨o, its, n, hq, hc, _⟩
    · exact .base (.lst hq)
    · exact .base (.frz hq)
    · exact .kList hq hc
  · rename_i hq hd
    cases e
    exact .base (.dK hq)
/-- the kinds that a program asks for -/
def isTy (T n : String) : Option Bool :=
  if n = "int" then some (T = "int" || T = "bool") else if n = "bool" ∨ n = "str" ∨ n = "list" ∨ n = "tuple" ∨ n = "dict" then some (T = n) else none
theorem kit_n {K : PySem.W.Frag} {T n : String} {b : Bool} (hT : T = "NoneType" ∨ T = "bool" ∨ T = "int" ∨ T = "str" ∨ T = "tuple" ∨ T = "list" ∨ T = "dict") (e : isTy T n = some b) : PySem.W.kitOne K (.type T) (.type n) = some b := by
  have hn : n = "int" ∨ n = "bool" ∨ n = "str" ∨ n = "list" ∨ n = "tuple" ∨ n = "dict" := by
    unfold isTy at e
    by_cases h1 : n = "int"
    · exact .inl h1
    · rw [if_neg h1] at e
      by_cases h2 : n = "bool" ∨ n = "str" ∨ n = "list" ∨ n = "tuple" ∨ n = "dict"
      · exact .inr h2
      · rw [if_neg h2] at e; cases e
  rcases hT with rfl | rfl | rfl | rfl | rfl | rfl | rfl <;> rcases hn with rfl | rfl | rfl | rfl | rfl | rfl <;>
    (have e' : b = _ := (Option.some.inj e).symm; subst e'; exact kit_ty (by decide +kernel))
theorem KC.mro {K : PySem.W.Frag} {C : Addr} (k : KC K C) (b : Value) : PySem.W.mroIn K C b = some (([.ref C, .type "object"] : List Value).contains b) := by
  obtain ⟨cd, h1, h2⟩ := k.cd
  unfold PySem.W.mroIn
  rw [h1, Option.bind_some, h2]
  rfl
theorem KC.isn {K : PySem.W.Frag} {C : Addr} (k : KC K C) {n : String} (e : n = "int" ∨ n = "bool" ∨ n = "str" ∨ n = "list" ∨ n = "tuple" ∨ n = "dict") : PySem.W.kitOne K (.ref C) (.type n) = some false := by
  have h1 : (Value.ref C == Value.type n) = false := rfl
  have h2 : PySem.W.kitMeta n = true := by rcases e with rfl | rfl | rfl | rfl | rfl | rfl <;> decide +kernel
  unfold PySem.W.kitOne
  rw [h1, if_neg Bool.false_ne_true]
  unfold PySem.W.kitCls
  dsimp only
  rw [if_pos h2]
  show PySem.W.mroIn K C (.type n) = some false
  rw [k.mro]
  rcases e with rfl | rfl | rfl | rfl | rfl | rfl <;> rfl
theorem KC.isc {K : PySem.W.Frag} {C C' : Addr} (k : KC K C) (k' : KC K C') : PySem.W.kitOne K (.ref C') (.ref C) = some (decide (C' = C)) := by
  unfold PySem.W.kitOne
  by_cases h : C' = C
  · subst h; simp
  · have h1 : (Value.ref C' == Value.ref C) = false := by simp [h]
    rw [h1, if_neg Bool.false_ne_true]
    unfold PySem.W.kitCls
    dsimp only
    obtain ⟨cd, h2, h3⟩ := k.cd
    have h4 : ((PySem.W.clsIn K C).isSome && PySem.W.typeIn K (.ref C) == some (.type "type")) = true := by rw [h2, k.ty]; rfl
    rw [if_pos h4]
    show PySem.W.mroIn K C' (.ref C) = _
    rw [k'.mro]
    have : (([.ref C', .type "object"] : List Value).contains (.ref C)) = decide (C' = C) := by
      simp [List.contains_cons, h, Ne.symm h, eq_comm]
    rw [this]
theorem KC.ist {K : PySem.W.Frag} {C : Addr} (k : KC K C) {T : String} (hT : T = "NoneType" ∨ T = "bool" ∨ T = "int" ∨ T = "str" ∨ T = "tuple" ∨ T = "list" ∨ T = "dict") : PySem.W.kitOne K (.type T) (.ref C) = some false := by
  have h1 : (Value.type T == Value.ref C) = false := rfl
  unfold PySem.W.kitOne
  rw [h1, if_neg Bool.false_ne_true]
  unfold PySem.W.kitCls
  dsimp only
  obtain ⟨cd, h2, h3⟩ := k.cd
  have h4 : ((PySem.W.clsIn K C).isSome && PySem.W.typeIn K (.ref C) == some (.type "type")) = true := by rw [h2, k.ty]; rfl
  rw [if_pos h4]
  rcases hT with rfl | rfl | rfl | rfl | rfl | rfl | rfl <;> (unfold PySem.W.subIn; kernel_rfl)
/-- isinstance(x, T), a built-in kind; isinstance(x, C), a plain class of the program (c) -/
def isiS (c : Addr → Bool) : List S → G → R S := fun ss g => match ss with
  | [s, .d k] => match snap g s with
    | some d => match k with
      | .typ n => match tyD d with
        | some T => match isTy T n with
          | some b => .ok (.d (.bl b)) g
          | none => .bad
        | none => match d with
          | .ins _ _ => match isTy "NoneType" n with
            | some _ => .ok (.d (.bl false)) g
            | none => .bad
          | _ => .bad
      | .adr C => if c C then (match tyD d with
        | some _ => .ok (.d (.bl false)) g
        | none => match d with
          | .ins C' _ => .ok (.d (.bl (decide (C' = C)))) g
          | _ => .bad) else .bad
      | _ => .bad
    | none => .bad
  | _ => .bad
theorem tyD_seven {d : D} {T : String} (e : tyD d = some T) : T = "NoneType" ∨ T = "bool" ∨ T = "int" ∨ T = "str" ∨ T = "tuple" ∨ T = "list" ∨ T = "dict" := by
  cases d <;> first | (cases e; done) | (cases e; simp)
theorem isTy_six {T n : String} {b : Bool} (e : isTy T n = some b) : n = "int" ∨ n = "bool" ∨ n = "str" ∨ n = "list" ∨ n = "tuple" ∨ n = "dict" := by
  unfold isTy at e
  by_cases h1 : n = "int"
  · exact .inl h1
  · rw [if_neg h1] at e
    by_cases h2 : n = "bool" ∨ n = "str" ∨ n = "list" ∨ n = "tuple" ∨ n = "dict"
    · exact .inr h2
    · rw [if_neg h2] at e; cases e
theorem ins_ty {K : PySem.W.Frag} {H : Hp} {v : V} {C : Addr} {gs : List (Str × D)} (h : Dn K H v (.ins C gs)) : TyX K H v (.ref C) ∧ KC K C := by
  cases h with
  | ins k h1 h2 => exact ⟨.base (.ins h1 k.cl k.ha k.hn k.htk (by rw [k.mro]; simp)), k⟩
theorem cd_isi {K : PySem.W.Frag} {c : Addr → Bool} (hc : ∀ C, c C = true → KC K C) : CallD K (rIsi K) (isiS c) := by
  intro μ F H g E vs ss Q rp sv p
  unfold isiS at p
  split at p
  · rename_i s k
    cases sv with
    | cons s1 t =>
      cases t with
      | cons s2 t =>
        cases t
        cases s2 with
        | d hk =>
          cases e1 : snap g s with
          | none => rw [e1] at p; exact p.elim
          | some d =>
            rw [e1] at p
            have hd := snap_ok rp s1 e1
            cases hk <;> first | exact False.elim p | skip
            · rename_i n
              dsimp only at p
              cases e2 : tyD d with
              | some T =>
                rw [e2] at p
                dsimp only at p
                cases e3 : isTy T n with
                | none => rw [e3] at p; exact p.elim
                | some b =>
                  rw [e3] at p
                  exact ⟨_, _, _, _, b, rfl, .ty n, tyD_ok hd e2, kit_n (tyD_seven e2) e3, Post.ok p rp (.d (.bl _))⟩
              | none =>
                rw [e2] at p
                dsimp only at p
                cases d <;> first | exact False.elim p | skip
                dsimp only at p
                cases e3 : isTy "NoneType" n with
                | none => rw [e3] at p; exact p.elim
                | some b =>
                  rw [e3] at p
                  obtain ⟨h1, h2⟩ := ins_ty hd
                  exact ⟨_, _, _, _, false, rfl, .ty n, h1, h2.isn (isTy_six e3), Post.ok p rp (.d (.bl _))⟩
            · rename_i C
              dsimp only at p
              by_cases hC : c C = true
              · rw [if_pos hC] at p
                cases e2 : tyD d with
                | some T =>
                  rw [e2] at p
                  exact ⟨_, _, _, _, false, rfl, .own C, tyD_ok hd e2, (hc C hC).ist (tyD_seven e2), Post.ok p rp (.d (.bl _))⟩
                | none =>
                  rw [e2] at p
                  dsimp only at p
                  cases d <;> first | exact False.elim p | skip
                  obtain ⟨h1, h2⟩ := ins_ty hd
                  exact ⟨_, _, _, _, _, rfl, .own C, h1, (hc C hC).isc h2, Post.ok p rp (.d (.bl _))⟩
              · rw [if_neg hC] at p; exact p.elim
  · exact p.elim
/-! ### fields -/
@[simp] def un1D (op : S → G → R S) (f : DE S) : DE S := fun ρ g => (f ρ g).bind op
@[simp] def fldS (c : Addr) (n : Str) : S → G → R S := fun s g => match snap g s with
  | some (.ins C gs) => if C = c then (match gs.lookup n with
    | some x => .ok (.d x) g
    | none => .bad) else .bad
  | _ => .bad
/-- snap of an instance: what it holds is frozen data -/
theorem snap_ins {K : PySem.W.Frag} {μ : Mp} {F H : Hp} {g : G} (r : Rp K μ F H g) {v : V} {s : S} {C : Addr} {gs : List (Str × D)} (h : Sn K μ F v s) (e : snap g s = some (.ins C gs)) : ∃ a dx fs, v = .ref a ∧ H a = some (.ins C dx fs) ∧ DnF K F fs gs ∧ KC K C := by
  cases h with
  | d h =>
    cases e
    cases h with
    | ins k h1 h2 => exact ⟨_, _, _, rfl, r.ex _ _ h1, h2, k⟩
  | @c n a l h =>
    obtain ⟨c, q, ok⟩ := r.cell h
    have e' : snapC g[n]? = some (.ins C gs) := e
    rw [q] at e'
    cases c <;> first | (cases e'; done) | skip
    obtain ⟨b, z, _, dx, ys, h1, h2, h3⟩ := ok; cases z; cases e'
    exact ⟨a, dx, ys, rfl, h1, h2, h3⟩
  | @i n a b l h =>
    have e' : snapI g[n]? = some (.ins C gs) := e
    unfold snapI at e'
    split at e' <;> cases e'
theorem ed_fld {c : Addr} {n : Str} (hn : NoAttr X.K c n) (h : ED X W e f) (hb : attributeBase e n X.env (eval e X.env) = eval e X.env := by rfl) : ED X W (.Attribute e n pos) (un1D (fldS c n) f) :=
  pe_weak (pe_fld h hb) fun σ H Q ⟨μ, F, g, ρ, r, re, q⟩ => by
    obtain ⟨μ0, F0, g0, ρ0, r0, re0, p0⟩ := tD.step r re q
    refine ⟨μ0, F0, g0, ρ0, r0, re0, p0.imp fun x H1 ⟨μ1, F1, a1, g1, r1, re1, s1, p1⟩ => ?_⟩
    unfold fldS at p1
    split at p1
    · rename_i C gs e1
      by_cases hC : C = c
      · rw [if_pos hC] at p1
        split at p1
        · rename_i d e2
          obtain ⟨a, dx, fs, rfl, h1, h2, h3⟩ := snap_ins r1 s1 e1
          obtain ⟨v, h4, h5⟩ := h2.lookup e2
          exact ⟨a, C, dx, fs, v, rfl, h1, h3.cl, hC ▸ hn, h4, Post.ok p1 r1 (.d h5)⟩
        · exact p1.elim
      · rw [if_neg hC] at p1; exact p1.elim
    · exact p1.elim
def putD (f : Str) (v : D) : List (Str × D) → List (Str × D)
  | [] => [(f, v)]
  | (g, x) :: r => if g = f then (g, v) :: r else (g, x) :: putD f v r
theorem DnF.put {K : PySem.W.Frag} {F : Hp} {f : Str} {v : V} {d : D} (h : Dn K F v d) : ∀ {fs : List (Str × V)} {gs : List (Str × D)}, DnF K F fs gs → DnF K F (putF f v fs) (putD f d gs)
  | _, _, .nil => .cons h .nil
  | (k, w) :: fs, (_, x) :: gs, .cons q t => by
    unfold putF putD
    by_cases e : k = f
    · rw [if_pos e, if_pos e]; exact .cons h t
    · rw [if_neg e, if_neg e]; exact .cons q (DnF.put h t)
theorem postOx {α β : Type} {rel : Mp → Hp → β → α → Prop} {K : PySem.W.Frag} {μ : Mp} {F : Hp} {W : WX} {σ : St} {ρ : Env} {r : R α} {k : α → G → O} {D : Ends} (e : Re K μ F σ ρ) (h : PostS K μ F W D (r.toO ρ k)) :
    Post rel K μ F (XW W σ) r (fun v H => ∃ μ' F' a g, Ext μ F μ' F' ∧ Rp K μ' F' H g ∧ Re K μ' F' σ ρ ∧ rel μ' F' v a ∧ PostS K μ' F' W D (k a g)) := by
  cases r with
  | ok a g => exact fun μ' F' H' v x y z => ⟨μ', F', a, g, x, y, e.mono x, z, PostS.ext x h⟩
  | exc C fs g => exact fun μ' F' H' d x y z => h μ' F' H' σ d x y (e.mono x) z
  | bad => exact h
/-- o.f = e, o a cell -/
def sfldS (c : Addr) (n : Str) (fo fv : DE S) : DS := fun ρ g => (fv ρ g).toO ρ fun v g1 => (fo ρ g1).toO ρ fun o g2 => match v, o with
  | .d x, .c m => match g2[m]? with
    | some (.ins C gs) => if C = c ∧ gs.length < 900 then .nx ρ (g2.set m (.ins C (putD n x gs))) else .bad
    | _ => .bad
  | _, _ => .bad
theorem sd_fld {c : Addr} {n : Str} {fo fv : DE S} {p' : Pos} {value : Expr} (hn : NoAttr X.K c n) (ho : ED X W o fo) (hv : ED X W value fv) (hs : swapsWith value (some (.Attribute o n p')) pos.line X.env = pure false := by rfl) : SD X W (.Assign [.Attribute o n p'] value pos) (sfldS c n fo fv) :=
  ps_weak (ps_fld ho hv hs) fun D σ H ⟨μ, F, g, ρ, r, re, q⟩ => by
    obtain ⟨μ0, F0, g0, ρ0, r0, re0, p0⟩ := tD.stepS r re q
    refine ⟨μ0, F0, g0, ρ0, r0, re0, p0.imp fun y H1 ⟨μ1, F1, a1, g1, r1, re1, s1, p1⟩ => ?_⟩
    refine ⟨μ1, F1, g1, ρ, r1, re1, (postOx (rel := relS X.K) re1 p1).imp fun x H2 ⟨μ2, F2, a2, g2, x2, r2, re2, s2, p2⟩ => ?_⟩
    cases a1 with
    | c m => exact p2.elim
    | i m => exact p2.elim
    | d d =>
      cases a2 with
      | d _ => exact p2.elim
      | i _ => exact p2.elim
      | c m =>
        dsimp only at p2
        cases s2 with
        | @c _ a l s2 =>
          obtain ⟨cc, q, ok⟩ := r2.cell s2
          rw [q] at p2
          cases cc <;> first | exact False.elim p2 | skip
          rename_i C gs
          dsimp only at p2
          obtain ⟨b, z, hF, dx, fs, h1, h2, h3⟩ := id ok
          cases z
          by_cases hC : C = c ∧ gs.length < 900
          · rw [if_pos hC] at p2
            refine ⟨a, C, dx, fs, rfl, h1, h3.cl, hC.1 ▸ hn, by rw [h2.length]; omega, ?_⟩
            refine p2 μ2 F2 _ σ (.refl _ _) ?_ re2
            have sd : Dn X.K F2 y d := by
              cases s1 with
              | d s1 => exact s1.mono x2.f
            exact r2.write s2 q (by simp) (by intro z; cases z) ⟨a, rfl, hF, dx, _, upd_same, h2.put sd, h3⟩
          · rw [if_neg hC] at p2; exact p2.elim
/-! ### methods of lists -/
/-- a receiver that is a list, then the arguments, then op -/
def mthD (op : S → List S → G → R S) (f : DE S) (fl : DE (List S)) : DE S := fun ρ g => (f ρ g).bind fun s g1 => match readL g1 s with
  | none => .bad
  | some _ => (fl ρ g1).bind fun ss g2 => op s ss g2
def MtD (K : PySem.W.Frag) (r : V → List V → Hp → VK → Prop) (op : S → List S → G → R S) : Prop :=
  ∀ (μ : Mp) (F H : Hp) (g : G) (E : XK) (v : V) (vs : List V) (s : S) (ss : List S) (Q : VK), Rp K μ F H g → Sn K μ F v s → SnL K μ F vs ss → Post (relS K) K μ F E (op s ss g) Q → r v vs H Q
theorem ty_list {K : PySem.W.Frag} {μ : Mp} {F H : Hp} {g : G} (r : Rp K μ F H g) {v : V} {s : S} {ds : List D} (h : Sn K μ F v s) (e : readLL g s = some ds) : tyV K "list" v H := by
  obtain ⟨a, xs, rfl, q, _⟩ := readLL_ok r h e
  exact .inl ⟨rfl, xs, q⟩
def mthL (op : S → List S → G → R S) (f : DE S) (fl : DE (List S)) : DE S := fun ρ g => (f ρ g).bind fun s g1 => match readLL g1 s with
  | none => .bad
  | some _ => (fl ρ g1).bind fun ss g2 => op s ss g2
theorem ed_lm {id : String} {r : V → List V → Hp → VK → Prop} {op : S → List S → G → R S} {name : Str} {apos : Pos} (slot : Slot "list" name id) (hty : typeOf (.builtin id) = pure (.type "method_descriptor")) (hm : MtR X id r) (hop : MtD X.K r op) (ho : ED X W o f) (ha : LD X W (e :: es) fl)
    (hbase : attributeBase o name X.env (eval o X.env) = eval o X.env := by rfl)
    (hfew : ((backTo p (starEach (e :: es) X.env)).all (fun x => !x.1) && (backToKw p (keywordEach [] X.env)).all (fun x => x.1.isSome)
      && decide ((e :: es).length + ([] : List Keyword).length + (if ([] : List Keyword).isEmpty then 0 else 1) < 30)) = true := by rfl)
    (hline : (apos.endLine == p.line) = true := by rfl) (hs : starEach (e :: es) X.env = (false, eval e X.env) :: starEach es X.env := by rfl) (hplain : (backTo p (starEach es X.env)).any (·.1) = false := by rfl) :
    ED X W (.Call (.Attribute o name apos) (e :: es) [] p) (mthL op f fl) :=
  pe_weak (pe_bm PySem.F.plainAttrs_list slot hty hm ho ha hbase hfew hline hs hplain) fun σ H Q ⟨μ, F, g, ρ, r, re, q⟩ => by
    obtain ⟨μ0, F0, g0, ρ0, r0, re0, p0⟩ := tD.step r re q
    refine ⟨μ0, F0, g0, ρ0, r0, re0, p0.imp fun x H1 ⟨μ1, F1, a1, g1, r1, re1, s1, p1⟩ => ?_⟩
    dsimp only at p1
    cases e1 : readLL g1 a1 with
    | none => rw [e1] at p1; exact p1.elim
    | some ds =>
      rw [e1] at p1
      refine ⟨ty_list r1 s1 e1, μ1, F1, g1, ρ, r1, re1, (Post.step (rel := relL X.K) p1).imp fun vs H2 ⟨μ2, F2, a2, g2, x2, r2, s2, p2⟩ => ?_⟩
      exact hop μ2 F2 H2 g2 _ x vs a1 a2 Q r2 (s1.mono x2) s2 p2
theorem ed_lm0 {id : String} {r : V → List V → Hp → VK → Prop} {op : S → List S → G → R S} {name : Str} {apos : Pos} (slot : Slot "list" name id) (hty : typeOf (.builtin id) = pure (.type "method_descriptor")) (hm : MtR X id r) (hop : MtD X.K r op) (ho : ED X W o f)
    (hbase : attributeBase o name X.env (eval o X.env) = eval o X.env := by rfl) (hline : (apos.endLine == p.line) = true := by rfl) : ED X W (.Call (.Attribute o name apos) [] [] p) (mthL op f nilL) :=
  pe_weak (pe_bm0 PySem.F.plainAttrs_list slot hty hm ho hbase hline) fun σ H Q ⟨μ, F, g, ρ, r, re, q⟩ => by
    obtain ⟨μ0, F0, g0, ρ0, r0, re0, p0⟩ := tD.step r re q
    refine ⟨μ0, F0, g0, ρ0, r0, re0, p0.imp fun x H1 ⟨μ1, F1, a1, g1, r1, re1, s1, p1⟩ => ?_⟩
    dsimp only at p1
    cases e1 : readLL g1 a1 with
    | none => rw [e1] at p1; exact p1.elim
    | some ds =>
      rw [e1] at p1
      exact ⟨ty_list r1 s1 e1, hop μ1 F1 H1 g1 _ x [] a1 [] Q r1 s1 .nil p1⟩
def appS : S → List S → G → R S := fun s ss g => match s, ss with
  | .c n, [.d x] => match g[n]? with
    | some (.lst ds) => if ds.length < 10000000 then .ok (.d .non) (g.set n (.lst (ds ++ [x]))) else .bad
    | _ => .bad
  | _, _ => .bad
theorem md_app {K : PySem.W.Frag} : MtD K rAppend appS := by
  intro μ F H g E v vs s ss Q rp sv svs p
  unfold appS at p
  split at p
  · rename_i n x
    cases sv with
    | @c _ a l h =>
      obtain ⟨cc, q, ok⟩ := rp.cell h
      rw [q] at p
      cases cc <;> first | exact False.elim p | skip
      rename_i ds
      dsimp only at p
      obtain ⟨b, z, hF, xs, h1, h2⟩ := id ok
      cases z
      by_cases hl : ds.length < 10000000
      · rw [if_pos hl] at p
        cases svs with
        | cons s1 t =>
          cases t
          cases s1 with
          | d hx =>
            refine ⟨a, xs, _, rfl, rfl, h1, by rw [h2.length]; exact Nat.lt_of_lt_of_le hl (by decide), ?_⟩
            exact p μ F _ _ (.refl _ _) (rp.write h q (by simp) (by intro z; cases z) ⟨a, rfl, hF, _, upd_same, h2.append (.cons hx .nil)⟩) (.d .non)
      · rw [if_neg hl] at p; exact p.elim
  · exact p.elim
/-- xs.extend(ys) -/
def extS : S → List S → G → R S := fun s ss g => match s, ss with
  | .c n, [t] => match g[n]?, readT g t with
    | some (.lst ds), some es => if ds.length + es.length ≤ 10000000 then .ok (.d .non) (g.set n (.lst (ds ++ es))) else .bad
    | _, _ => .bad
  | _, _ => .bad
theorem md_ext {K : PySem.W.Frag} : MtD K rExtend extS := by
  intro μ F H g E v vs s ss Q rp sv svs p
  unfold extS at p
  split at p
  · rename_i n t
    cases sv with
    | @c _ a l h =>
      obtain ⟨cc, q, ok⟩ := rp.cell h
      rw [q] at p
      cases svs with
      | cons s1 t' =>
        cases t'
        cases e : readT g t with
        | none => rw [e] at p; cases cc <;> exact p.elim
        | some es =>
          rw [e] at p
          cases cc <;> first | exact False.elim p | skip
          rename_i ds
          dsimp only at p
          obtain ⟨b, z, hF, xs, h1, h2⟩ := id ok
          cases z
          obtain ⟨l2, ws, rfl, h3, h4⟩ := readT_ok rp s1 e
          by_cases hl : ds.length + es.length ≤ 10000000
          · rw [if_pos hl] at p
            refine ⟨a, l2, xs, ws, rfl, rfl, h1, h3, by rw [h2.length, h4.length]; exact big_le hl, ?_⟩
            exact p μ F _ _ (.refl _ _) (rp.write h q (by simp) (by intro z; cases z) ⟨a, rfl, hF, _, upd_same, h2.append h4⟩) (.d .non)
          · rw [if_neg hl] at p; exact p.elim
  · exact p.elim
/-- xs.pop() -/
def popS : S → List S → G → R S := fun s ss g => match s, ss with
  | .c n, [] => match g[n]? with
    | some (.lst ds) => match ds[ds.length - 1]? with
      | some x => .ok (.d x) (g.set n (.lst ds.dropLast))
      | none => .bad
    | _ => .bad
  | _, _ => .bad
theorem DnL.dropLast {K : PySem.W.Frag} {F : Hp} {vs : List V} {ds : List D} (h : DnL K F vs ds) : DnL K F vs.dropLast ds.dropLast := by
  rw [List.dropLast_eq_take, List.dropLast_eq_take, h.length]
  exact h.take _
theorem md_pop {K : PySem.W.Frag} : MtD K rPop popS := by
  intro μ F H g E v vs s ss Q rp sv svs p
  unfold popS at p
  split at p
  · rename_i n
    cases sv with
    | @c _ a l h =>
      obtain ⟨cc, q, ok⟩ := rp.cell h
      rw [q] at p
      cases cc <;> first | exact False.elim p | skip
      rename_i ds
      dsimp only at p
      obtain ⟨b, z, hF, xs, h1, h2⟩ := id ok
      cases z
      cases svs
      cases e : ds[ds.length - 1]? with
      | none => rw [e] at p; exact p.elim
      | some x =>
        rw [e] at p
        obtain ⟨y, h3, h4⟩ := h2.get e
        refine ⟨a, xs, y, rfl, rfl, h1, by rw [h2.length]; exact h3, ?_⟩
        exact p μ F _ _ (.refl _ _) (rp.write h q (by simp) (by intro z; cases z) ⟨a, rfl, hF, _, upd_same, h2.dropLast⟩) (.d h4)
  · exact p.elim
theorem DnL.erase {K : PySem.W.Frag} {F : Hp} : ∀ {vs : List V} {ds : List D} (i : Nat), DnL K F vs ds → DnL K F (vs.eraseIdx i) (ds.eraseIdx i)
  | _, _, _, .nil => .nil
  | _, _, 0, .cons _ t => t
  | _, _, i + 1, .cons h t => .cons h (DnL.erase i t)
theorem erase_map (cs : List Int) (k : Nat) : (cs.map V.int).eraseIdx k = (cs.eraseIdx k).map V.int := by
  induction cs generalizing k with
  | nil => rfl
  | cons c cs ih =>
    cases k with
    | zero => rfl
    | succ k => simp [List.eraseIdx, ih]
/-- xs.pop(i) -/
def popIS : S → List S → G → R S := fun s ss g => match ss with
  | [.d (.int i)] => if inR i then (match s with
    | .c n => match g[n]? with
      | some (.lst ds) => match seqIndex? i ds.length with
        | some k => match ds[k]? with
          | some x => .ok (.d x) (g.set n (.lst (ds.eraseIdx k)))
          | none => .bad
        | none => .bad
      | _ => .bad
    | .i n => match g[n]? with
      | some (.tp pre cs post) => match seqIndex? i cs.length with
        | some k => match cs[k]? with
          | some x => .ok (.d (.int x)) (g.set n (.tp pre (cs.eraseIdx k) post))
          | none => .bad
        | none => .bad
      | _ => .bad
    | _ => .bad) else .bad
  | _ => .bad
theorem md_popI {K : PySem.W.Frag} : MtD K rPopAt popIS := by
  intro μ F H g E v vs s ss Q rp sv svs p
  unfold popIS at p
  split at p
  · rename_i i
    by_cases hi : inR i = true
    · rw [if_pos hi] at p
      obtain ⟨b1, b2⟩ := of_decide_eq_true (show decide (-(2 ^ 62) ≤ i ∧ i < 2 ^ 62) = true from hi)
      have b1' : -(2 ^ 63) ≤ i := by omega
      have b2' : i < 2 ^ 63 := by omega
      cases svs with
      | cons s1 t' =>
        cases t'
        cases s1 with
        | d s1 =>
          cases s1
          cases sv with
          | d h => exact p.elim
          | @c n a l h =>
            dsimp only at p
            obtain ⟨cc, q, ok⟩ := rp.cell h
            rw [q] at p
            cases cc <;> first | exact False.elim p | skip
            rename_i ds
            dsimp only at p
            obtain ⟨b, z, hF, xs, h1, h2⟩ := id ok
            cases z
            cases e1 : seqIndex? i ds.length with
            | none => rw [e1] at p; exact p.elim
            | some k =>
              rw [e1] at p
              dsimp only at p
              cases e : ds[k]? with
              | none => rw [e] at p; exact p.elim
              | some x =>
                rw [e] at p
                obtain ⟨y, h3, h4⟩ := h2.get e
                refine ⟨a, xs, i, k, y, rfl, rfl, h1, b1', b2', by rw [h2.length]; exact e1, h3, ?_⟩
                exact p μ F _ _ (.refl _ _) (rp.write h q (by simp) (by intro z; cases z) ⟨a, rfl, hF, _, upd_same, h2.erase k⟩) (.d h4)
          | @i n a b l h =>
            dsimp only at p
            obtain ⟨cc, q, ok⟩ := rp.cell h
            rw [q] at p
            cases cc <;> first | exact False.elim p | skip
            rename_i pre cs post
            dsimp only at p
            obtain ⟨a', b', z, hne, hF, hF', xs, ys, h1, h2, h3, h4⟩ := id ok
            cases z
            cases e1 : seqIndex? i cs.length with
            | none => rw [e1] at p; exact p.elim
            | some k =>
              rw [e1] at p
              dsimp only at p
              cases e : cs[k]? with
              | none => rw [e] at p; exact p.elim
              | some x =>
                rw [e] at p
                refine ⟨b, cs.map V.int, i, k, .int x, rfl, rfl, h4, b1', b2', by rw [List.length_map]; exact e1, by rw [List.getElem?_map, e]; rfl, ?_⟩
                refine p μ F _ _ (.refl _ _) (rp.write h q (by simp) (by intro z; cases z) ⟨a, b, rfl, hne, hF, hF', xs, ys, by rw [upd_ne hne]; exact h1, h2, h3, ?_⟩) (.d (.int _))
                rw [upd_same, erase_map]
    · rw [if_neg hi] at p; exact p.elim
  · exact p.elim
/-! ### o[i] = e -/
theorem DnL.set {K : PySem.W.Frag} {F : Hp} {v : V} {d : D} (h : Dn K F v d) : ∀ {vs : List V} {ds : List D} (i : Nat), DnL K F vs ds → DnL K F (vs.set i v) (ds.set i d)
  | _, _, _, .nil => .nil
  | _, _, 0, .cons _ t => .cons h t
  | _, _, i + 1, .cons q t => .cons q (DnL.set h i t)
def putS : S → S → S → G → Option G := fun v o i g => match v, i with
  | .d x, .d (.int k) => match o with
    | .c n => match g[n]? with
      | some (.lst ds) => match ixN ds.length k with
        | some j => some (g.set n (.lst (ds.set j x)))
        | none => none
      | some (.tp pre cs post) => match ixN (pre.length + 1 + post.length) k with
        | some j => if j < pre.length then some (g.set n (.tp (pre.set j x) cs post)) else if j = pre.length then none else some (g.set n (.tp pre cs (post.set (j - pre.length - 1) x)))
        | none => none
      | _ => none
    | .i n => match g[n]?, x with
      | some (.tp pre cs post), .int y => match ixN cs.length k with
        | some j => some (g.set n (.tp pre (cs.set j y) post))
        | none => none
      | _, _ => none
    | _ => none
  | _, _ => none
theorem put_ok {K : PySem.W.Frag} {μ : Mp} {F H : Hp} {g g' : G} {v o i : V} {sv so si : S} {Q : Hp → Prop} (rp : Rp K μ F H g) (hv : Sn K μ F v sv) (ho : Sn K μ F o so) (hi : Sn K μ F i si) (e : putS sv so si g = some g') (k : ∀ H', Rp K μ F H' g' → Q H') : rSetL o i v H Q := by
  unfold putS at e
  split at e
  · rename_i x j
    cases hv with
    | d hx =>
      cases hi with
      | d hi =>
        cases hi
        cases ho with
        | d h => cases e
        | @c n a l h =>
          dsimp only at e
          obtain ⟨cc, q, ok⟩ := rp.cell h
          rw [q] at e
          cases cc <;> first | (cases e; done) | skip
          · rename_i ds
            dsimp only at e
            obtain ⟨b, z, hF, xs, h1, h2⟩ := id ok
            cases z
            cases e1 : ixN ds.length j with
            | none => rw [e1] at e; cases e
            | some m =>
              rw [e1] at e
              cases e
              exact ⟨a, xs, j, m, rfl, rfl, h1, by rw [h2.length]; exact e1, k _ (rp.write h q (by simp) (by intro z; cases z) ⟨a, rfl, hF, _, upd_same, h2.set hx m⟩)⟩
          · rename_i pre cs post
            dsimp only at e
            obtain ⟨a', b', z, hne, hF, hF', xs, ys, h1, h2, h3, h4⟩ := id ok
            cases z
            have len : (xs ++ V.ref b' :: ys).length = pre.length + 1 + post.length := by
              rw [List.length_append, List.length_cons, h2.length, h3.length]; omega
            cases e1 : ixN (pre.length + 1 + post.length) j with
            | none => rw [e1] at e; cases e
            | some m =>
              rw [e1] at e
              dsimp only at e
              by_cases c1 : m < pre.length
              · rw [if_pos c1] at e
                cases e
                refine ⟨a, _, j, m, rfl, rfl, h1, by rw [len]; exact e1, k _ (rp.write h q (by simp) (by intro z; cases z) ⟨a, b', rfl, hne, hF, hF', xs.set m v, ys, ?_, h2.set hx m, h3, by rw [upd_ne (Ne.symm hne)]; exact h4⟩)⟩
                rw [upd_same, List.set_append_left _ _ (by rw [h2.length]; exact c1)]
              · rw [if_neg c1] at e
                by_cases c2 : m = pre.length
                · rw [if_pos c2] at e; cases e
                · rw [if_neg c2] at e
                  cases e
                  refine ⟨a, _, j, m, rfl, rfl, h1, by rw [len]; exact e1, k _ (rp.write h q (by simp) (by intro z; cases z) ⟨a, b', rfl, hne, hF, hF', xs, ys.set (m - pre.length - 1) v, ?_, h2, h3.set hx _, by rw [upd_ne (Ne.symm hne)]; exact h4⟩)⟩
                  rw [upd_same, List.set_append_right _ _ (by rw [h2.length]; omega), h2.length]
                  have : m - pre.length = (m - pre.length - 1) + 1 := by omega
                  rw [this, List.set_cons_succ]
                  simp
        | @i n a b l h =>
          dsimp only at e
          obtain ⟨cc, q, ok⟩ := rp.cell h
          rw [q] at e
          cases cc <;> first | (cases x <;> cases e; done) | skip
          rename_i pre cs post
          cases hx <;> first | (cases e; done) | skip
          rename_i y
          dsimp only at e
          obtain ⟨a', b', z, hne, hF, hF', xs, ys, h1, h2, h3, h4⟩ := id ok
          cases z
          cases e1 : ixN cs.length j with
          | none => rw [e1] at e; cases e
          | some m =>
            rw [e1] at e
            cases e
            refine ⟨b, cs.map V.int, j, m, rfl, rfl, h4, by rw [List.length_map]; exact e1, k _ (rp.write h q (by simp) (by intro z; cases z) ⟨a, b, rfl, hne, hF, hF', xs, ys, by rw [upd_ne hne]; exact h1, h2, h3, ?_⟩)⟩
            rw [upd_same, List.map_set]
  · cases e
def putSt (fo fi fv : DE S) : DS := fun ρ g => (fv ρ g).toO ρ fun v g1 => (fo ρ g1).toO ρ fun o g2 => (fi ρ g2).toO ρ fun i g3 => match putS v o i g3 with
  | some g4 => .nx ρ g4
  | none => .bad
theorem sd_put {i value : Expr} {fo fi fv : DE S} (ho : ED X W o fo) (hi : ED X W i fi) (hv : ED X W value fv) (hs : swapsWithSole [.Subscript o i p] value pos.line X.env = pure false := by rfl) (hw : swappedStores [.Subscript o i p] value X.env = pure none := by rfl)
    (h1 : (assignEach [.Subscript o i p] X.env).map (·.2) = [assign (.Subscript o i p) X.env] := by rfl)
    (ha : ∀ v, assign (.Subscript o i p) X.env v = (do
      let ov ← holding [v] (eval o X.env)
      let iv ← holding [v, ov] (eval i X.env)
      standAt p
      holding [v, ov, iv] (setItem ov iv v)
      release [v, ov, iv] []) := by intro _; rfl) : SD X W (.Assign [.Subscript o i p] value pos) (putSt fo fi fv) :=
  ps_weak (ps_asg hv (pg_sub ho hi set_list ha) hs hw h1) fun D σ H ⟨μ, F, g, ρ, r, re, q⟩ => by
    refine ⟨μ, F, g, ρ, r, re, (postOx (rel := relS X.K) re q).imp fun y H1 ⟨μ1, F1, a1, g1, x1, r1, re1, s1, p1⟩ => ?_⟩
    refine ⟨μ1, F1, g1, ρ, r1, re1, (postOx (rel := relS X.K) re1 p1).imp fun x H2 ⟨μ2, F2, a2, g2, x2, r2, re2, s2, p2⟩ => ?_⟩
    refine ⟨μ2, F2, g2, ρ, r2, re2, (postOx (rel := relS X.K) re2 p2).imp fun z H3 ⟨μ3, F3, a3, g3, x3, r3, re3, s3, p3⟩ => ?_⟩
    cases e : putS a1 a2 a3 g3 with
    | none => rw [e] at p3; exact p3.elim
    | some g4 =>
      rw [e] at p3
      exact put_ok r3 ((Sn.mono x2 s1).mono x3) (Sn.mono x3 s2) s3 e fun H4 r4 => p3 μ3 F3 H4 σ (.refl _ _) r4 re3
end
end DL
/-! DL6: comprehensions, new instances. -/
namespace DL
open PySem PySem.Spec PyProof.Rows L2
section
variable {X : Cx} {W : WX} {e a b c o : Expr} {es : List Expr} {pos p p2 : Pos} {fl : DE (List S)} {f f1 f2 f3 : DE S}
abbrev W0 : WX := fun _ _ _ _ => False
def wipeE (ρ : Env) : List Nat → Env
  | [] => ρ
  | v :: vs => (wipeE ρ vs).set v none
theorem Re.wipe {K : PySem.W.Frag} {μ : Mp} {F : Hp} {σ : St} {ρ : Env} (h : Re K μ F σ ρ) : ∀ vs : List Nat, Re K μ F (wipe σ vs) (wipeE ρ vs)
  | [] => h
  | v :: vs => Re.wipe1 v (Re.wipe h vs)
theorem wipe_at (σ : St) : ∀ (vs : List Nat) (i : Nat), (wipe σ vs)[i]? = if i ∈ vs then (σ[i]?).map (fun _ => none) else σ[i]?
  | [], i => by simp [L2.wipe]
  | v :: vs, i => by
    unfold L2.wipe
    by_cases h : i = v
    · subst h
      rw [List.getElem?_set]
      simp only [if_true, List.mem_cons, true_or]
      by_cases hl : i < σ.length
      · rw [if_pos (by rw [wipe_length]; exact hl), List.getElem?_eq_getElem hl]; rfl
      · rw [if_neg (by rw [wipe_length]; exact hl), List.getElem?_eq_none (by omega)]; rfl
    · rw [List.getElem?_set_ne (Ne.symm h), wipe_at σ vs i]
      by_cases h2 : i ∈ vs
      · rw [if_pos h2, if_pos (List.mem_cons_of_mem _ h2)]
      · rw [if_neg h2, if_neg (fun z => (List.mem_cons.mp z).elim h h2)]
theorem wipe_only {σ σ2 : St} {js vs : List Nat} (o : Only js (wipe σ vs) σ2) (hj : ∀ j ∈ js, j ∈ vs) : wipe σ2 vs = wipe σ vs := by
  apply List.ext_getElem?
  intro i
  rw [wipe_at, wipe_at]
  by_cases h : i ∈ vs
  · rw [if_pos h, if_pos h]
    have hl : σ2.length = σ.length := by rw [o.1, wipe_length]
    by_cases hi : i < σ.length
    · rw [List.getElem?_eq_getElem hi, List.getElem?_eq_getElem (by rw [hl]; exact hi)]; rfl
    · rw [List.getElem?_eq_none (l := σ) (by omega), List.getElem?_eq_none (l := σ2) (by omega)]
  · rw [if_neg h, if_neg h, o.2 i fun z => h (hj i z), wipe_at, if_neg h]
/-- the turns of a comprehension whose list is the n-th cell -/
def compL (n : Nat) (h : DG) (t : DE Bool) (el : DE S) (ρ : Env) : List D → G → Option G
  | [], g => some g
  | d :: ds, g => match h (.d d) ρ with
    | none => none
    | some ρ1 => match t ρ1 g with
      | .ok true g1 => match el ρ1 g1 with
        | .ok (.d x) g2 => match g2[n]? with
          | some (.lst acc) => if acc.length < 10000000 then compL n h t el ρ ds (g2.set n (.lst (acc ++ [x]))) else none
          | _ => none
        | _ => none
      | .ok false g1 => compL n h t el ρ ds g1
      | _ => none
/-- as data -/
def compD (it : DE (List D)) (vs : List Nat) (h : DG) (t : DE Bool) (el : DE S) : DE S := fun ρ g => (it ρ g).bind fun ds g1 => match compL g1.length h t el (wipeE ρ vs) ds (g1 ++ [.lst []]) with
  | some g2 => match g2[g1.length]? with
    | some (.lst acc) => .ok (.d (.lst acc)) (g2.take g1.length)
    | _ => .bad
  | none => .bad
/-- as a new cell -/
def compC (it : DE (List D)) (vs : List Nat) (h : DG) (t : DE Bool) (el : DE S) : DE S := fun ρ g => (it ρ g).bind fun ds g1 => match compL g1.length h t el (wipeE ρ vs) ds (g1 ++ [.lst []]) with
  | some g2 => match g2[g1.length]? with
    | some (.lst acc) => .ok (.c g1.length) (g2.take (g1.length + 1))
    | _ => .bad
  | none => .bad
theorem comp_core {K : PySem.W.Frag} {J : It} {ds : List D} {js vs : List Nat} {h : DG} {t : DE Bool} {el : DE S} {σ : St} {ρ : Env} {μ1 : Mp} {F1 H1 : Hp} {g1 g2 : G} {acc : List D} {Dl : Addr} {Qd : Hp → Prop}
    (r1 : Rp K μ1 F1 H1 g1) (re1 : Re K μ1 F1 σ ρ) (w1 : WalkD K F1 J ds) (hj : ∀ j ∈ js, j ∈ vs) (hD : H1 Dl = none) (e : compL g1.length h t el (wipeE ρ vs) ds (g1 ++ [.lst []]) = some g2)
    (hd : ∀ μ F H, Ext (μ1 ++ [[Dl]]) F1 μ F → Rp K μ F H g2 → Qd H) :
    ∃ Wi : Nat → Nat → Hp → Prop, (∃ m, Wi 0 m (upd H1 Dl (.lst []))) ∧ ∀ i m H, Wi i m H →
      (J.stop i H ∧ Qd H) ∨ (J.go i H ∧ ∃ Nx : Hp → Prop, (∀ H', Nx H' → ∃ m', m' < m ∧ Wi (i + 1) m' H') ∧ ∀ x H', J.yld i H x H' → tG K js h x (wipe σ vs) H' fun σ2 H2 => wipe σ2 vs = wipe σ vs ∧ tDB K W0 t σ2 H2 fun b H3 =>
        if b = true then tD K W0 el σ2 H3 fun y H4 => ∃ acc, H4 Dl = some (.lst acc) ∧ acc.length < sizeLine ∧ Nx (upd H4 Dl (.lst (acc ++ [y]))) else Nx H3) := by
  refine ⟨fun i m H => m = ds.length - i ∧ i ≤ ds.length ∧ ∃ μ F g, Ext (μ1 ++ [[Dl]]) F1 μ F ∧ Rp K μ F H g ∧ Re K μ F (wipe σ vs) (wipeE ρ vs) ∧ compL g1.length h t el (wipeE ρ vs) (ds.drop i) g = some g2,
    ⟨ds.length, by simp, Nat.zero_le _, μ1 ++ [[Dl]], F1, _, .refl _ _, r1.push hD (c := .lst []) ⟨Dl, rfl, r1.fresh hD, [], upd_same, .nil⟩, (re1.mono Ext.push).wipe vs, by simpa using e⟩, ?_⟩
  rintro i m H ⟨rfl, hi, μ, F, g, x, r, re, q⟩
  by_cases hl : i < ds.length
  · refine .inr ⟨w1.go i H (ex_trans x.f r.ex) hl, _, fun H' n => ⟨_, ?_, rfl, hl, n⟩, fun y H' hy => ?_⟩
    · omega
    · have hdi : ds[i]? = some ds[i] := List.getElem?_eq_getElem hl
      obtain ⟨F', x', r', d'⟩ := w1.yld i H y H' _ μ F g x.f r hy hdi
      rw [List.drop_eq_getElem_cons hl] at q
      unfold compL at q
      cases e1 : h (.d ds[i]) (wipeE ρ vs) with
      | none => rw [e1] at q; cases q
      | some ρ1 =>
        rw [e1] at q
        dsimp only at q
        refine ⟨μ, F', g, wipeE ρ vs, .d ds[i], ρ1, r', re.mono x', .d d', e1, fun σ2 re2 o2 => ⟨wipe_only o2 hj, ?_⟩⟩
        refine ⟨μ, F', g, ρ1, r', re2, ?_⟩
        cases e2 : t ρ1 g with
        | exc => rw [e2] at q; cases q
        | bad => rw [e2] at q; cases q
        | ok b g3 =>
          rw [e2] at q
          intro μ3 F3 H3 b' x3 r3 hb
          cases hb
          cases b with
          | false =>
            dsimp only at q
            rw [if_neg Bool.false_ne_true]
            exact ⟨μ3, F3, g3, (x.trans x').trans x3, r3, (re.mono x').mono x3, q⟩
          | true =>
            dsimp only at q
            rw [if_pos rfl]
            refine ⟨μ3, F3, g3, ρ1, r3, re2.mono x3, ?_⟩
            cases e3 : el ρ1 g3 with
            | exc => rw [e3] at q; cases q
            | bad => rw [e3] at q; cases q
            | ok s g4 =>
              rw [e3] at q
              cases s with
              | c n => cases q
              | i n => cases q
              | d d =>
                dsimp only at q
                intro μ4 F4 H4 v x4 r4 hv
                cases hv with
                | d hv =>
                have hx : Ext (μ1 ++ [[Dl]]) F1 μ4 F4 := ((x.trans x').trans x3).trans x4
                have hm : μ4[g1.length]? = some [Dl] := hx.m _ _ (by rw [← r1.len]; simp)
                obtain ⟨cc, hc, ok⟩ := r4.cell hm
                rw [hc] at q
                cases cc <;> first | (cases q; done) | skip
                rename_i ac
                dsimp only at q
                obtain ⟨a', z, hF, ys, h5, h6⟩ := id ok
                cases z
                by_cases hs : ac.length < 10000000
                · rw [if_pos hs] at q
                  refine ⟨ys, h5, by rw [h6.length]; exact Nat.lt_of_lt_of_le hs (by decide), μ4, F4, _, hx, ?_, (((re.mono x').mono x3).mono x4), q⟩
                  exact r4.write hm hc (by simp) (by intro z; cases z) ⟨Dl, rfl, hF, _, upd_same, h6.append (.cons hv .nil)⟩
                · rw [if_neg hs] at q; cases q
  · have ei : i = ds.length := by omega
    subst ei
    rw [List.drop_length] at q
    have q' : some g = some g2 := q
    cases q'
    exact .inl ⟨w1.stop _ H (ex_trans x.f r.ex) (Nat.le_refl _), hd μ F H x r⟩
theorem comp_t {it : DE (List D)} {js vs : List Nat} {h : DG} {t : DE Bool} {el : DE S} (hj : ∀ j ∈ js, j ∈ vs) : ∀ σ H Q, tD X.K W (compD it vs h t el) σ H Q → tLc (tI X.K W it) (tG X.K js h) (tDB X.K W0 t) (tD X.K W0 el) vs σ H Q := fun σ H Q ⟨μ, F, g, ρ, r, re, q⟩ => by
  refine ⟨μ, F, g, ρ, r, re, (Post.step (rel := relI X.K) q).imp fun J H1 ⟨μ1, F1, ds, g1, x1, r1, w1, p1⟩ => ?_⟩
  intro Dl hD
  cases e1 : compL g1.length h t el (wipeE ρ vs) ds (g1 ++ [.lst []]) with
  | none => rw [e1] at p1; exact p1.elim
  | some g2 =>
    rw [e1] at p1
    dsimp only at p1
    refine comp_core (Qd := fun H => Q (.ref Dl) H) (acc := []) r1 (re.mono x1) w1 hj hD e1 fun μ2 F2 H2 x2 r2 => ?_
    have hm : μ2[g1.length]? = some [Dl] := x2.m _ _ (by rw [← r1.len]; simp)
    obtain ⟨cc, hc, ok⟩ := r2.cell hm
    rw [hc] at p1
    cases cc <;> first | exact False.elim p1 | skip
    rename_i ac
    dsimp only at p1
    obtain ⟨a', z, hF, ys, h5, h6⟩ := id ok
    cases z
    obtain ⟨r3, x3⟩ := r2.freeze hm hc (by intro z; cases z) h5
    have r4 := r3.cut g1.length
    have z : (g2.set g1.length .dead).take g1.length = g2.take g1.length := by
      rw [List.take_set]
      exact List.set_eq_of_length_le (by simp; omega)
    rw [z] at r4
    refine p1 (μ2.take g1.length) _ H2 _ ⟨fun n a hn => ?_, ex_trans x2.f x3.f⟩ r4 (.d (.lst upd_same (h6.mono x3.f)))
    have hl := (List.getElem?_eq_some_iff.mp hn).1
    rw [List.getElem?_take, if_pos (by rw [← r1.len]; exact hl)]
    exact x2.m n a (Ext.push (F := F1).m n a hn)
theorem comp_tc {it : DE (List D)} {js vs : List Nat} {h : DG} {t : DE Bool} {el : DE S} (hj : ∀ j ∈ js, j ∈ vs) : ∀ σ H Q, tD X.K W (compC it vs h t el) σ H Q → tLc (tI X.K W it) (tG X.K js h) (tDB X.K W0 t) (tD X.K W0 el) vs σ H Q := fun σ H Q ⟨μ, F, g, ρ, r, re, q⟩ => by
  refine ⟨μ, F, g, ρ, r, re, (Post.step (rel := relI X.K) q).imp fun J H1 ⟨μ1, F1, ds, g1, x1, r1, w1, p1⟩ => ?_⟩
  intro Dl hD
  cases e1 : compL g1.length h t el (wipeE ρ vs) ds (g1 ++ [.lst []]) with
  | none => rw [e1] at p1; exact p1.elim
  | some g2 =>
    rw [e1] at p1
    dsimp only at p1
    refine comp_core (Qd := fun H => Q (.ref Dl) H) (acc := []) r1 (re.mono x1) w1 hj hD e1 fun μ2 F2 H2 x2 r2 => ?_
    have hm : μ2[g1.length]? = some [Dl] := x2.m _ _ (by rw [← r1.len]; simp)
    obtain ⟨cc, hc, ok⟩ := r2.cell hm
    rw [hc] at p1
    cases cc <;> first | exact False.elim p1 | skip
    rename_i ac
    dsimp only at p1
    have r4 := r2.cut (g1.length + 1)
    refine p1 (μ2.take (g1.length + 1)) _ H2 _ ⟨fun n a hn => ?_, x2.f⟩ r4 (.c (l := []) ?_)
    · have hl := (List.getElem?_eq_some_iff.mp hn).1
      rw [List.getElem?_take, if_pos (by rw [← r1.len]; omega)]
      exact x2.m n a (Ext.push (F := F1).m n a hn)
    · rw [List.getElem?_take, if_pos (by omega)]; exact hm
@[simp] def yesB : DE Bool := fun _ g => .ok true g
def TsD (X : Cx) (W : WX) (ifs : List Expr) (t : DE Bool) : Prop := PTs X ifs (tDB X.K W t)
theorem pts_weak {X : Cx} {e : List Expr} {t t' : TT} (h : PTs X e t) (k : ∀ σ H Q, t' σ H Q → t σ H Q) : PTs X e t' := ⟨fun pins s σ H Q I q => h.run pins s σ H Q I (k σ H Q q)⟩
theorem ts_nil : TsD X W [] yesB := pts_weak pts_nil fun σ H Q ⟨μ, F, g, ρ, r, re, q⟩ => Post.ok q r rfl
theorem ts_one {t : DE Bool} (h : TD X W c t) : TsD X W [c] t := pts_one h
theorem ed_lc {elt tg iter : Expr} {ifs : List Expr} {scope : Scope} {own : List (Str × Nat)} {it : DE (List D)} {js : List Nat} {h : DG} {t : DE Bool} {el : DE S} (hc : X.calm = true) (hN : X.N.Nodup) (hi : ID X W tg iter it) (ok : BlkOk X.N X.env.scope scope own) (hj : ∀ j ∈ js, j ∈ own.map (·.2))
    (hg : ∀ (s : Shared) (H : Hp) (C : Addr) (cl : List (Str × Addr)) (fp : List Addr), GD (X.blk s H scope (compEnvC scope cl C X.env) fp) tg js h) (ht : ∀ (s : Shared) (H : Hp) (C : Addr) (cl : List (Str × Addr)) (fp : List Addr), TsD (X.blk s H scope (compEnvC scope cl C X.env) fp) W0 ifs t)
    (he : ∀ (s : Shared) (H : Hp) (C : Addr) (cl : List (Str × Addr)) (fp : List Addr), ED (X.blk s H scope (compEnvC scope cl C X.env) fp) W0 elt el) (hs : ∀ x, foldedSetIterable iter X.env x = pure x := by intro _; rfl) :
    ED X W (.ListComp elt [⟨tg, iter, ifs, 0⟩] scope pos) (compD it (own.map (·.2)) h t el) := pe_weak (pe_lc (g := tG X.K js h) (tt := tDB X.K W0 t) (te := tD X.K W0 el) hc hN hi ok hg ht he hs) (comp_t hj)
theorem ed_lcC {elt tg iter : Expr} {ifs : List Expr} {scope : Scope} {own : List (Str × Nat)} {it : DE (List D)} {js : List Nat} {h : DG} {t : DE Bool} {el : DE S} (hc : X.calm = true) (hN : X.N.Nodup) (hi : ID X W tg iter it) (ok : BlkOk X.N X.env.scope scope own) (hj : ∀ j ∈ js, j ∈ own.map (·.2))
    (hg : ∀ (s : Shared) (H : Hp) (C : Addr) (cl : List (Str × Addr)) (fp : List Addr), GD (X.blk s H scope (compEnvC scope cl C X.env) fp) tg js h) (ht : ∀ (s : Shared) (H : Hp) (C : Addr) (cl : List (Str × Addr)) (fp : List Addr), TsD (X.blk s H scope (compEnvC scope cl C X.env) fp) W0 ifs t)
    (he : ∀ (s : Shared) (H : Hp) (C : Addr) (cl : List (Str × Addr)) (fp : List Addr), ED (X.blk s H scope (compEnvC scope cl C X.env) fp) W0 elt el) (hs : ∀ x, foldedSetIterable iter X.env x = pure x := by intro _; rfl) :
    ED X W (.ListComp elt [⟨tg, iter, ifs, 0⟩] scope pos) (compC it (own.map (·.2)) h t el) := pe_weak (pe_lc (g := tG X.K js h) (tt := tDB X.K W0 t) (te := tD X.K W0 el) hc hN hi ok hg ht he hs) (comp_tc hj)
theorem asg_weak {te : TE} {f : DE S} {i : Nat} (h : ∀ σ H Q, tD X.K W f σ H Q → te σ H Q) : ∀ D σ H, tS X.K W (asgS i f) D σ H → tAsg te (gName i) D σ H := fun D σ H ⟨μ, F, g, ρ, r, re, q⟩ => by
  refine h σ H _ ?_
  obtain ⟨μ0, F0, g0, ρ0, r0, re0, p0⟩ := tD.stepS r re q
  refine ⟨μ0, F0, g0, ρ0, r0, re0, p0.imp fun x H1 ⟨μ1, F1, a1, g1, r1, re1, s1, p1⟩ => ?_⟩
  exact p1 μ1 F1 H1 _ (.refl _ _) r1 (Re.set s1 i re1)
theorem sd_lc {i : Nat} {y : Str} {py : Pos} {elt tg iter : Expr} {ifs : List Expr} {scope : Scope} {own : List (Str × Nat)} {pos spos : Pos} {it : DE (List D)} {js : List Nat} {h : DG} {t : DE Bool} {el : DE S} (hc : X.calm = true) (hN : X.N.Nodup) (hy : X.N[i]? = some y) (hyl : X.env.scope.names.lookup y = some .local)
    (hsw : swapsWith (.ListComp elt [⟨tg, iter, ifs, 0⟩] scope pos) (some (.Name y py)) spos.line X.env = pure true) (hi : ID X W tg iter it) (ok : BlkOk X.N X.env.scope scope own) (hj : ∀ j ∈ js, j ∈ own.map (·.2))
    (hg : ∀ (s : Shared) (H : Hp) (C : Addr) (cl : List (Str × Addr)) (fp : List Addr), GD (X.blk s H scope (compEnvC scope cl C X.env) fp) tg js h) (ht : ∀ (s : Shared) (H : Hp) (C : Addr) (cl : List (Str × Addr)) (fp : List Addr), TsD (X.blk s H scope (compEnvC scope cl C X.env) fp) W0 ifs t)
    (he : ∀ (s : Shared) (H : Hp) (C : Addr) (cl : List (Str × Addr)) (fp : List Addr), ED (X.blk s H scope (compEnvC scope cl C X.env) fp) W0 elt el) (hs : ∀ x, foldedSetIterable iter X.env x = pure x := by intro _; rfl) :
    SD X W (.Assign [.Name y py] (.ListComp elt [⟨tg, iter, ifs, 0⟩] scope pos) spos) (asgS i (compD it (own.map (·.2)) h t el)) := ps_weak (ps_setLc (g := tG X.K js h) (tt := tDB X.K W0 t) (te := tD X.K W0 el) hc hN hy hyl hsw hi ok hg ht he hs) (asg_weak (comp_t hj))
theorem sd_lcC {i : Nat} {y : Str} {py : Pos} {elt tg iter : Expr} {ifs : List Expr} {scope : Scope} {own : List (Str × Nat)} {pos spos : Pos} {it : DE (List D)} {js : List Nat} {h : DG} {t : DE Bool} {el : DE S} (hc : X.calm = true) (hN : X.N.Nodup) (hy : X.N[i]? = some y) (hyl : X.env.scope.names.lookup y = some .local)
    (hsw : swapsWith (.ListComp elt [⟨tg, iter, ifs, 0⟩] scope pos) (some (.Name y py)) spos.line X.env = pure true) (hi : ID X W tg iter it) (ok : BlkOk X.N X.env.scope scope own) (hj : ∀ j ∈ js, j ∈ own.map (·.2))
    (hg : ∀ (s : Shared) (H : Hp) (C : Addr) (cl : List (Str × Addr)) (fp : List Addr), GD (X.blk s H scope (compEnvC scope cl C X.env) fp) tg js h) (ht : ∀ (s : Shared) (H : Hp) (C : Addr) (cl : List (Str × Addr)) (fp : List Addr), TsD (X.blk s H scope (compEnvC scope cl C X.env) fp) W0 ifs t)
    (he : ∀ (s : Shared) (H : Hp) (C : Addr) (cl : List (Str × Addr)) (fp : List Addr), ED (X.blk s H scope (compEnvC scope cl C X.env) fp) W0 elt el) (hs : ∀ x, foldedSetIterable iter X.env x = pure x := by intro _; rfl) :
    SD X W (.Assign [.Name y py] (.ListComp elt [⟨tg, iter, ifs, 0⟩] scope pos) spos) (asgS i (compC it (own.map (·.2)) h t el)) := ps_weak (ps_setLc (g := tG X.K js h) (tt := tDB X.K W0 t) (te := tD X.K W0 el) hc hN hy hyl hsw hi ok hg ht he hs) (asg_weak (comp_tc hj))
end
end DL
/-! DLX: the program's own exceptions: class X(..): def __init__(self[, f]): super().__init__('..')[; self.f = f]. -/
namespace PySem
namespace DLX
open PySem.W PySem.Calls PyProof.Rows PySem.HandSPX
/-! ### the text of __init__ -/
def iS0 : Scope := { kind := .function, names := [(PySem.Str.ofString "self", .local), (PySem.Str.ofString "__class__", .free), (PySem.Str.ofString "super", .globalImplicit)], isGenerator := false, isCoroutine := false, more := [] }
def iS1 (f : Str) : Scope := { kind := .function, names := [(PySem.Str.ofString "self", .local), (f, .local), (PySem.Str.ofString "__class__", .free), (PySem.Str.ofString "super", .globalImplicit)], isGenerator := false, isCoroutine := false, more := [] }
def iA0 (p1 : Pos) : Arguments := { posonlyargs := [], args := [{ arg := "self", annotation := none, pos := p1 }], vararg := none, kwonlyargs := [], kw_defaults := [], kwarg := none, defaults := [] }
def iA1 (f : Str) (p1 p2 : Pos) : Arguments := { posonlyargs := [], args := [{ arg := "self", annotation := none, pos := p1 }, { arg := f, annotation := none, pos := p2 }], vararg := none, kwonlyargs := [], kw_defaults := [], kwarg := none, defaults := [] }
def iE (txt : Str) (j : Nat) (q0 q1 q2 q3 q4 q5 : Pos) : Stmt := .Expr (.Call (.Attribute (.Call (.Name "super" q0) [] [] q1) "__init__" q2) [.Constant (.str txt) j q3] [] q4) q5
def iF (f : Str) (r1 r2 r3 r4 : Pos) : Stmt := .Assign [.Attribute (.Name "self" r1) f r2] (.Name f r3) r4
/-- what the written part says of a class at C whose __init__, at fI, is such a def; cc: its cell __class__ -/
structure XTxt (K : Frag) (prog : Program) (C fI cc : Addr) : Prop where
  cls : ∃ nm q N bs bm sn sub ab col dd k0 k1 k2 k3 k5, K.lookup C = some (excClassObj nm q C N bs bm true sn sub ab col dd k0 k1 k2 k3 k5 "ValueError.__new__") ∧ refsVE bm = true
  sa : findIn K (.ref C) "__setattr__" = some (some (.builtin "object.__setattr__"))
  iC : findIn K (.ref C) "__init__" = some (some (.ref fI))
  tC : typeIn K (.ref fI) = some (.type "function")
  veC : subIn K (.ref C) (.type "ValueError") = some true
  cell : ∃ cl cld csl, K.lookup cc = some ⟨cl, cld, .cell (some (.ref C)), csl⟩
  sub : mroIn K C (.ref C) = some true
  sup : nsIn K mainGlobals "super" = some none
  tp : nsIn K cStatics "thirdparty.any" = some none
  top : (prog.main.scope.names.lookup ("super" : Str)).isSome = false
  along : ks_superIn K C C "__init__" = some (some (.builtin "ValueError.__init__"))
/-- .. and its __init__ -/
structure XFn (K : Frag) (prog : Program) (fI cc : Addr) (params : Arguments) (body : List Stmt) (scope : Scope) (f : List Str) (txt : Str) (j : Nat) (q0 q1 q2 q3 q4 : Pos) : Prop where
  args : ∀ (fd : FuncData) (us : List Value), fd.params = params → fd.defaults = .none → fd.kwdefaults = .none → us.length = f.length + 1 → bindArgs fd ⟨us, []⟩ = pure ((("self" : Str) :: f).zip us)
  he : ∃ pl : Sem Bool, ∀ (qual : Str) (L fI : Addr) (cda : Value) (cc : Addr), eval (.Call (.Attribute (.Call (.Name "super" q0) [] [] q1) "__init__" q2) [.Constant (.str txt) j q3] [] q4) (ksEnv qual scope L fI cda cc) = (do
      let ov ← attributeBase (.Call (.Name "super" q0) [] [] q1) "__init__" (ksEnv qual scope L fI cda cc) (eval (.Call (.Name "super" q0) [] [] q1) (ksEnv qual scope L fI cda cc))
      standAt q2.atName
      let (f, first) ← holding [ov] (getMethod ov "__init__" pl)
      callWith q4 f first (backTo q4 (starEach [.Constant (.str txt) j q3] (ksEnv qual scope L fI cda cc))) [])
  fn : ∃ (qual : Str) (oc : Value) (od : Option Addr) (doc pm : Value) (an : Option Addr) (cda : Addr) (ct : Value) (osl : Array (Option Value)) (ccl : Value) (cdd : Option Addr) (vs : Array Value) (ccs : Array (Option Value)) (file : Str) (tf : Tok),
    K.lookup fI = some ⟨oc, od, .func (ksFn "__init__" qual params body scope .none .none doc pm an (.ref cda) ct cc), osl⟩ ∧ codeIn K (.ref cda) qual = true ∧ K.lookup cda = some ⟨ccl, cdd, .fields vs, ccs⟩ ∧ vs[2]? = some (.str file tf) ∧ ((prog.main.file : Str) == file) = true
theorem ldL {M : Model} {A : Around} {E : Value → Shared → Prop} {s : Shared} {env : Env} {m : Str → Option Value} {x : Str} {pos : Pos} {v : Value} {Q : Value → Shared → Prop} (hn : s.heap.Ns env.locals m) (hv : m x = some v) (h : Q v s)
    (hk : env.scope.kind = .function) (hl : env.kindOf x = some .local) (hd : (x == ("__debug__" : Str)) = false) : wpAny M A (eval (.Name x pos) env) Q E s := wpAny_Name (wpAny_loadName_local hk hl hn hv h) hd
section
variable {prog : Program} {w : World} {A : Around} {E : Value → Shared → Prop} {s : Shared} {K : Frag} {mg mb : Str → Option Value} {C fI cc : Addr}
theorem call_bwV {h : Heap} {g : Array GenState} {d : Drawn} {t : Nat} {os : OsState} {nm q : Str} {N : Addr} {bs bm : List Value} {hdct : Bool} {sn : List Str} {sub : List Value} {ab : Bool} {col : Option Bool} {dd : Option Addr} {k0 k1 k2 k3 k5 : Option Value}
    {u e t0 : Addr} {rest : List Value} {Q : Value → Shared → Prop}
    (hC : h.get? C = some (excClassObj nm q C N bs bm hdct sn sub ab col dd k0 k1 k2 k3 k5 "ValueError.__new__")) (he : h.get? e = some (excO C t0)) (hu : h.get? u = some (kxs_mw "ValueError.__init__" e)) (hrest : rest.length ≤ sizeLine)
    (hq : ∀ h' t1, (∀ b o, b ≠ e → h.get? b = some o → h'.get? b = some o) → h'.get? e = some (excO C t1) → Q .none ⟨h', g, d, t, os⟩) :
    wpAny (model prog w) A (call (.ref u) rest) Q E ⟨h, g, d, t, os⟩ := by
  refine wpAny_call (codeAny_of_tree ?_)
  show wpAny _ A.in1 (callAny (.ref u) ⟨rest, []⟩) _ _ _
  simp only [callAny]
  refine wpAny_bind (wpAny_load hu ?_)
  simp only [kxs_mw, show (Value.type "method-wrapper" == Value.type "method" || Value.type "method-wrapper" == Value.type "builtin_function_or_method" || Value.type "method-wrapper" == Value.type "method-wrapper") = true by decide, if_true]
  refine W.KFB.if_so (by decide) ?_
  refine wpAny_bind (check_bound_init F.excBase_ValueError.toExcCallFacts hC he rfl ?_)
  refine wpAny_bind (wpAny_pure (wpAny_pure ?_))
  refine ⟨Code.quiet_builtin _ (by decide +kernel), codeAny_builtin F.excBase_ValueError.initEntry ?_⟩
  rw [Around.under_plainId F.excBase_ValueError.init.plain _]
  wp_walk
  refine hq _ h.objs.size (fun b o hb ho => ?_) ?_
  · rw [Heap.get?_update_other _ _ (Ne.symm hb)]
    exact Heap.get?_push_of_some _ ho
  · rw [Heap.get?_update_self _ (Heap.get?_push_of_some _ he) rfl]
    rfl
/-- super().__init__('..') as the first statement -/
theorem super_line (T : XTxt K prog C fI cc) {params : Arguments} {body rest : List Stmt} {scope : Scope} {qual : Str} {oc : Value} {od : Option Addr} {doc pm : Value} {an : Option Addr} {cda : Addr} {ct : Value} {osl : Array (Option Value)} {ccl : Value} {cdd : Option Addr} {vs : Array Value} {ccs : Array (Option Value)} {file : Str} {tf : Tok}
    (hfn : K.lookup fI = some ⟨oc, od, .func (ksFn "__init__" qual params body scope .none .none doc pm an (.ref cda) ct cc), osl⟩) (hcode : K.lookup cda = some ⟨ccl, cdd, .fields vs, ccs⟩) (hvs : vs[2]? = some (.str file tf)) (hfile : ((prog.main.file : Str) == file) = true)
    (X : K.In s.heap) (hg : s.heap.Ns mainGlobals mg) (hb : s.heap.Ns builtinsNs mb) (hbb : ∀ x : Str, x ≠ "__name__" → mb x = bootBuiltins x)
    {x t0 L : Addr} {m : Str → Option Value} {txt : Str} {j : Nat} {q0 q1 q2 q3 q4 q5 : Pos} {ar : Arg} {pl : Sem Bool} {Q : Flow → Shared → Prop} (he : ∀ (L : Addr), eval (.Call (.Attribute (.Call (.Name "super" q0) [] [] q1) "__init__" q2) [.Constant (.str txt) j q3] [] q4) (ksEnv qual scope L fI (.ref cda) cc) = (do
      let ov ← attributeBase (.Call (.Name "super" q0) [] [] q1) "__init__" (ksEnv qual scope L fI (.ref cda) cc) (eval (.Call (.Name "super" q0) [] [] q1) (ksEnv qual scope L fI (.ref cda) cc))
      standAt q2.atName
      let (f, first) ← holding [ov] (getMethod ov "__init__" pl)
      callWith q4 f first (backTo q4 (starEach [.Constant (.str txt) j q3] (ksEnv qual scope L fI (.ref cda) cc))) []))
    (hn : s.heap.Ns L m) (hm : m "self" = some (.ref x)) (hx : s.heap.get? x = some (excO C t0)) (hxL : L ≠ x)
    (har : (params.posonlyargs ++ params.args).head? = some ar) (hself : ar.arg = "self") (hks : scope.names.lookup ("super" : Str) = some .globalImplicit) (hkc : scope.names.lookup ("__class__" : Str) = some .free) (hka : scope.names.lookup ("self" : Str) = some .local) (hk : scope.kind = .function)
    (hq : ∀ h' tk t1, (∀ b o, b ≠ x → s.heap.get? b = some o → h'.get? b = some o) → h'.get? x = some (excO C t1) → h'.Ns L m → _root_.PySem.wpAt (model prog w) A (.func body (ksEnv qual scope L fI (.ref cda) cc)) (execs rest (ksEnv qual scope L fI (.ref cda) cc)) Q E { s with heap := h', toks := tk }) :
    _root_.PySem.wpAt (model prog w) A (.func body (ksEnv qual scope L fI (.ref cda) cc)) (execs (iE txt j q0 q1 q2 q3 q4 q5 :: rest) (ksEnv qual scope L fI (.ref cda) cc)) Q E s := by
  obtain ⟨nm, q, N, bs, bm, sn, sub, ab, col, dd, k0, k1, k2, k3, k5, hC, hbm⟩ := T.cls
  obtain ⟨cl, cld, csl, hcell⟩ := T.cell
  have hcl : clsIn K C = some { name := nm, bases := bs, mro := .ref C :: bm, ns := N, qualname := q, hasDict := true, slotNames := sn, subclasses := sub, abstract := ab, collection := col, hasDel := false } := by unfold clsIn; rw [hC] <;> rfl
  have hinter : interactive (ksEnv qual scope L fI (.ref cda) cc) = false := by simp [interactive, ksEnv, envX, hk]
  obtain ⟨hh, g, d, t, os⟩ := s
  refine ks_wpAt_execs_cons ?_
  refine ks_wpAt_Expr_any ?_ hinter rfl
  refine ks_wpAt_MethodCall ?_ (he L)
  refine ks_wpAt_super_base (env := ksEnv qual scope L fI (.ref cda) cc) hks hkc (by decide) rfl (X _ _ hfn) rfl har rfl (X _ _ hcode) rfl hvs hfile T.top ?_
  refine ks_loadName_global hk hks (loadGlobal_builtin (env := ksEnv qual scope L fI (.ref cda) cc) hg (mg_none_of X hg T.sup) hb ((hbb _ (by decide +kernel)).trans (by first | boot_by_name | rfl | kernel_rfl)) ⟨rfl, ?_⟩)
  refine wpAny_loadName_free hk hkc rfl ⟨_, X _ _ hcell, rfl⟩ ?_
  rw [hself]
  refine wpAny_loadName_local hk hka hn hm ?_
  refine ks_wpAny_isType_cls (X _ _ hC) rfl ⟨rfl, ?_⟩
  refine ks_wpAny_call_super (X _ _ hC) rfl hx rfl (fun c e => by cases e) (looks_mroIn X T.sub) (fun h2 e2 k2 => ?_)
  have X2 : K.In h2 := X.keeps k2
  have hx2 := k2 _ _ hx
  have hal : alongIn K "__init__" (((Value.ref C :: bm).dropWhile (· != .ref C)).drop 1) = some (some (.builtin "ValueError.__init__")) := by
    have z := T.along
    unfold ks_superIn at z
    rw [hcl] at z
    exact z
  have LT : Looks (model prog w) h2 (typeOf (.ref x)) (.ref C) := fun A Q E s k q => wpAny_typeOf_ref (k _ _ hx2) q
  have hI : Looks (model prog w) h2 (isInstance (.ref x) (.type "ValueError")) true := LT.andThen (looks_subIn X2 T.veC)
  have hxC : x ≠ C := fun z => by
    have z1 := X _ _ hC
    rw [← z, hx] at z1
    cases z1
  refine kxs_getMethod kxs_ValueError (so := hh.objs.size) (D := C) (x := x) (C := C) e2 (looks_opaque X2 T.tp) (l₀ := .ref C :: bm) ?_ rfl X2 hal hI hxC (by decide) ?_
  · exact fun A Q E s k q => wpAny_bind ((looks_clsIn X2 hcl) A _ E s k (wpAny_pure q))
  dsimp only
  refine kxs_callWith (i := "ValueError.__init__") (x := x) rfl ?_
  refine evalArgs_plain (spliced_cons (Constant_str (k := j) (pos := q3) (spliced_nil ?_)))
  have k3' : ∀ b o, hh.get? b = some o → (h2.push (kxs_mw "ValueError.__init__" x)).get? b = some o := fun b o e => Heap.get?_push_of_some _ (k2 b o e)
  have hu : (h2.push (kxs_mw "ValueError.__init__" x)).get? h2.objs.size = some (kxs_mw "ValueError.__init__" x) := Heap.get?_push_at rfl rfl
  refine ⟨hu, ?_⟩
  refine call_bwV (k3' _ _ (X _ _ hC)) (k3' _ _ hx) hu (by rw [sizeLine_eq]; show 1 ≤ 16777216; decide) fun h4 t4 k4 e4 => ?_
  have kk : ∀ b o, b ≠ x → hh.get? b = some o → h4.get? b = some o := fun b o hb e => k4 b o hb (k3' b o e)
  refine hq h4 _ t4 kk e4 ?_
  obtain ⟨oL, es, ep, hL, r⟩ := hn
  exact ⟨oL, es, ep, kk _ _ hxL hL, r⟩
/-- what is left of a fresh exception at x: no own dict -/
structure End0 (h h' : Heap) (x C t1 : Addr) : Prop where
  keep : ∀ b o, b ≠ x → h.get? b = some o → h'.get? b = some o
  obj : h'.get? x = some (excO C t1)
structure End1 (f : Str) (h h' : Heap) (x C dx t1 : Addr) (v : Value) : Prop where
  keep : ∀ b o, b ≠ x → h.get? b = some o → h'.get? b = some o
  obj : h'.get? x = some { cls := .ref C, dict := some dx, data := .fields #[.ref t1, .none, .none, .none, .bool false, .none] }
  dbig : h.objs.size ≤ dx
  dne : dx ≠ x
  ns : h'.Ns1 dx (fun y => if y = f then some v else none)
theorem init0 (T : XTxt K prog C fI cc) {p1 : Pos} {txt : Str} {j : Nat} {q0 q1 q2 q3 q4 q5 : Pos} (Fn : XFn K prog fI cc (iA0 p1) [iE txt j q0 q1 q2 q3 q4 q5] iS0 [] txt j q0 q1 q2 q3 q4) {x t0 : Addr} {R : Result → Shared → Prop} (X : K.In s.heap) (hg : s.heap.Ns mainGlobals mg) (hb : s.heap.Ns builtinsNs mb) (hbb : ∀ x : Str, x ≠ "__name__" → mb x = bootBuiltins x)
    (hlim : s.heap.NoLimit) (hx : s.heap.get? x = some (excO C t0)) (hroom : A.depth < recursionLimit)
    (hq : ∀ h' tk t1, End0 s.heap h' x C t1 → R (.ok (.ret .none)) { s with heap := h', toks := tk }) : codeAny (model prog w) A (.call (.ref fI) ⟨[.ref x], []⟩) R s := by
  obtain ⟨qual, oc, od, doc, pm, an, cda, ct, osl, ccl, cdd, vs, ccs, file, tf, hfn, hcd, hcode, hvs, hfile⟩ := Fn.fn
  obtain ⟨pl, he⟩ := Fn.he
  refine ks_codeAny_call_defAt (fd := ksFn "__init__" qual (iA0 p1) [iE txt j q0 q1 q2 q3 q4 q5] iS0 .none .none doc pm an (.ref cda) ct cc) (body := [iE txt j q0 q1 q2 q3 q4 q5]) (binds := [("self", .ref x)]) hroom (X _ _ hfn) rfl hlim (codeRec_of X hcd) rfl (BindsTo.of_eq (Fn.args _ _ rfl rfl rfl rfl)) (show ∀ y ∈ iS0.names, y.2 ≠ .cell by decide) (by intro y hy; simp at hy; subst hy; rfl) (fun h₁ hns k₁ => ?_) rfl rfl rfl
  have hxL : s.heap.objs.size ≠ x := Nat.ne_of_gt (Heap.lt_size hx)
  refine super_line (s := { s with heap := h₁, toks := s.toks + 1 }) (params := iA0 p1) (scope := iS0) (L := s.heap.objs.size) (pl := pl) T hfn hcode hvs hfile (X.keeps k₁) (hg.keeps k₁) (hb.keeps k₁) hbb (fun L => he _ _ _ _ _) hns (by first | rfl | with_unfolding_all rfl | kernel_rfl) (k₁ _ _ hx) hxL rfl rfl rfl rfl rfl rfl (fun h' tk t1 kk e1 hn' => ?_)
  refine wpAt_of_wpAny (wpAny_execs_nil ?_)
  exact hq h' tk t1 ⟨fun b o hb e => kk b o hb (k₁ b o e), e1⟩
theorem init1 (T : XTxt K prog C fI cc) {f : Str} {p1 p2 : Pos} {txt : Str} {j : Nat} {q0 q1 q2 q3 q4 q5 r1 r2 r3 r4 : Pos} (Fn : XFn K prog fI cc (iA1 f p1 p2) [iE txt j q0 q1 q2 q3 q4 q5, iF f r1 r2 r3 r4] (iS1 f) [f] txt j q0 q1 q2 q3 q4) (noN : findIn K (.ref C) f = some none)
    (hf : f ≠ "self") (hfd : (f == ("__debug__" : Str)) = false) (hfc : f ≠ "__class__") (hfs : f ≠ "super") {x t0 : Addr} {v : Value} {R : Result → Shared → Prop} (X : K.In s.heap) (hg : s.heap.Ns mainGlobals mg) (hb : s.heap.Ns builtinsNs mb) (hbb : ∀ x : Str, x ≠ "__name__" → mb x = bootBuiltins x)
    (hlim : s.heap.NoLimit) (hx : s.heap.get? x = some (excO C t0)) (hnx : K.lookup x = none) (hroom : A.depth < recursionLimit)
    (hq : ∀ h' tk dx t1, End1 f s.heap h' x C dx t1 v → R (.ok (.ret .none)) { s with heap := h', toks := tk }) : codeAny (model prog w) A (.call (.ref fI) ⟨[.ref x, v], []⟩) R s := by
  obtain ⟨qual, oc, od, doc, pm, an, cda, ct, osl, ccl, cdd, vs, ccs, file, tf, hfn, hcd, hcode, hvs, hfile⟩ := Fn.fn
  obtain ⟨pl, he⟩ := Fn.he
  obtain ⟨nm, q, N, bs, bm, sn, sub, ab, col, dd, k0, k1, k2, k3, k5, hC, hbm⟩ := T.cls
  have hcl : clsIn K C = some { name := nm, bases := bs, mro := .ref C :: bm, ns := N, qualname := q, hasDict := true, slotNames := sn, subclasses := sub, abstract := ab, collection := col, hasDel := false } := by unfold clsIn; rw [hC] <;> rfl
  have lk : (iS1 f).names.lookup f = some .local := by
    show (([(PySem.Str.ofString "self", NameKind.local), (f, .local), (PySem.Str.ofString "__class__", .free), (PySem.Str.ofString "super", .globalImplicit)] : List (Str × NameKind)).lookup f) = some .local
    have h1 : (f == PySem.Str.ofString "self") = false := by simpa using hf
    simp [List.lookup, h1]
  have lks : (iS1 f).names.lookup ("super" : Str) = some .globalImplicit := by
    have h1 : (PySem.Str.ofString "super" == f) = false := by simpa using Ne.symm hfs
    have h2 : (PySem.Str.ofString "super" == PySem.Str.ofString "self") = false := by decide
    have h3 : (PySem.Str.ofString "super" == PySem.Str.ofString "__class__") = false := by decide
    unfold iS1
    dsimp only
    rw [List.lookup_cons, h2, List.lookup_cons, h1, List.lookup_cons, h3, List.lookup_cons]
    simp
  have lkc : (iS1 f).names.lookup ("__class__" : Str) = some .free := by
    have h1 : (PySem.Str.ofString "__class__" == f) = false := by simpa using Ne.symm hfc
    have h2 : (PySem.Str.ofString "__class__" == PySem.Str.ofString "self") = false := by decide
    unfold iS1
    dsimp only
    rw [List.lookup_cons, h2, List.lookup_cons, h1, List.lookup_cons]
    simp
  refine ks_codeAny_call_defAt (fd := ksFn "__init__" qual (iA1 f p1 p2) [iE txt j q0 q1 q2 q3 q4 q5, iF f r1 r2 r3 r4] (iS1 f) .none .none doc pm an (.ref cda) ct cc) (body := [iE txt j q0 q1 q2 q3 q4 q5, iF f r1 r2 r3 r4]) (binds := [(("self" : Str), .ref x), (f, v)]) hroom (X _ _ hfn) rfl hlim (codeRec_of X hcd) rfl (BindsTo.of_eq (Fn.args _ _ rfl rfl rfl rfl))
    (show ∀ y ∈ (iS1 f).names, y.2 ≠ .cell by intro y hy; simp [iS1] at hy; rcases hy with rfl | rfl | rfl | rfl <;> simp) (fun y hy => by
      rcases List.mem_cons.mp hy with rfl | hy
      · rfl
      · rcases List.mem_cons.mp hy with rfl | hy
        · exact lk
        · cases hy) (fun h₁ hns k₁ => ?_) rfl rfl rfl
  have hxL : s.heap.objs.size ≠ x := Nat.ne_of_gt (Heap.lt_size hx)
  have m1 : ([(PySem.Str.ofString "self", Value.ref x), (f, v)] : List (Str × Value)).reverse.lookup (PySem.Str.ofString "self") = some (.ref x) := by
    have h1 : (PySem.Str.ofString "self" == f) = false := by simpa using Ne.symm hf
    show ([(f, v), (PySem.Str.ofString "self", Value.ref x)] : List (Str × Value)).lookup (PySem.Str.ofString "self") = some (.ref x)
    rw [List.lookup_cons, h1, List.lookup_cons]
    simp
  have m2 : ([(PySem.Str.ofString "self", Value.ref x), (f, v)] : List (Str × Value)).reverse.lookup f = some v := by
    show ([(f, v), (PySem.Str.ofString "self", Value.ref x)] : List (Str × Value)).lookup f = some v
    rw [List.lookup_cons]
    simp
  refine super_line (s := { s with heap := h₁, toks := s.toks + 2 }) (params := iA1 f p1 p2) (scope := iS1 f) (L := s.heap.objs.size) (pl := pl) T hfn hcode hvs hfile (X.keeps k₁) (hg.keeps k₁) (hb.keeps k₁) hbb (fun L => he _ _ _ _ _) hns m1 (k₁ _ _ hx) hxL rfl rfl lks lkc rfl rfl (fun h' tk t1 kk e1 hn' => ?_)
  have kk' : ∀ b o, b ≠ x → s.heap.get? b = some o → h'.get? b = some o := fun b o hb e => kk b o hb (k₁ b o e)
  have X' : K.In h' := fun a o e => kk' a o (fun z => by rw [z, hnx] at e; cases e) (X _ _ e)
  refine wpAt_of_wpAny (wpAny_execs_cons (plainObj_wpAny_Assign_Attribute ?_ rfl))
  refine ldL hn' m2 (ldL hn' m1 ?_ rfl rfl (by decide)) rfl lk hfd
  refine set_plain X' (ox := excO C t1) (od := none) ⟨e1, rfl, rfl, trivial⟩ T.sa ?_
  refine exc_osa X' e1 hcl (show refsVE (.ref C :: bm) = true from hbm) rfl noN (fun h₃ tk₃ dx k₃ dn dne hx₃ hn₃ => ?_)
  refine wpAny_execs_nil (hq h₃ tk₃ dx t1 ⟨fun b o hb e => k₃ b o hb (kk' b o hb e), hx₃, Nat.le_of_lt (Nat.lt_of_lt_of_le hn'.lt dn), dne, hn₃⟩)
/-- a made exception -/
structure Made0 (h h' : Heap) (e C : Addr) : Prop where
  keep : ∀ b o, h.get? b = some o → h'.get? b = some o
  new : h.objs.size ≤ e
  obj : ∃ oe vs, h'.get? e = some oe ∧ oe.cls = .ref C ∧ oe.dict = none ∧ oe.data = .fields vs ∧ vs[1]? = some .none
structure Made1 (f : Str) (h h' : Heap) (e C d : Addr) (v : Value) : Prop where
  keep : ∀ b o, h.get? b = some o → h'.get? b = some o
  new : h.objs.size ≤ e
  obj : ∃ oe vs, h'.get? e = some oe ∧ oe.cls = .ref C ∧ oe.dict = some d ∧ oe.data = .fields vs ∧ vs[1]? = some .none
  dbig : h.objs.size ≤ d
  dne : d ≠ e
  ns : h'.Ns1 d (fun y => if y = f then some v else none)
theorem made0 (T : XTxt K prog C fI cc) {p1 : Pos} {txt : Str} {j : Nat} {q0 q1 q2 q3 q4 q5 : Pos} (Fn : XFn K prog fI cc (iA0 p1) [iE txt j q0 q1 q2 q3 q4 q5] iS0 [] txt j q0 q1 q2 q3 q4) {R : Result → Shared → Prop} (X : K.In s.heap) (hg : s.heap.Ns mainGlobals mg) (hb : s.heap.Ns builtinsNs mb) (hbb : ∀ x : Str, x ≠ "__name__" → mb x = bootBuiltins x)
    (hlim : s.heap.NoLimit) (hroom : A.depth + 1 < recursionLimit)
    (hq : ∀ h' tk e, Made0 s.heap h' e C → R (.ok (.ret (.ref e))) { s with heap := h', toks := tk }) : codeAny (model prog w) A (.call (.ref C) ⟨[], []⟩) R s := by
  obtain ⟨nm, q, N, bs, bm, sn, sub, ab, col, dd, k0, k1, k2, k3, k5, hC, hbm⟩ := T.cls
  obtain ⟨hp, g, dr, tk, os⟩ := s
  have k : ∀ b o, hp.get? b = some o → ((hp.push (kdv_tup [])).push (excO C hp.objs.size)).get? b = some o := fun b o e => Heap.get?_push_of_some _ (Heap.get?_push_of_some _ e)
  have hget : ((hp.push (kdv_tup [])).push (excO C hp.objs.size)).get? (hp.objs.size + 1) = some (excO C hp.objs.size) := by heap_get
  refine call_own F.excBase_ValueError (fun X => refsVE_contains X bm hbm) (X _ _ hC) (looks_findIn X T.iC) (fun self => bind_fn X self T.tC) (by rw [sizeLine_eq]; show 0 ≤ 16777216; decide) ?_
  refine init0 (s := ⟨(hp.push (kdv_tup [])).push (excO C hp.objs.size), g, dr, tk, os⟩) T Fn (X.keeps k) (hg.keeps k) (hb.keeps k) hbb (hlim.keeps k) hget ?_ fun h' tk' t1 ⟨k', hx⟩ => ?_
  · show A.depth + 1 < recursionLimit
    exact hroom
  · have old : ∀ b o, hp.get? b = some o → h'.get? b = some o := fun b o e => k' b o (Nat.ne_of_lt (Nat.lt_succ_of_lt (Heap.lt_size e))) (k b o e)
    exact ⟨rfl, hq h' tk' (hp.objs.size + 1) ⟨old, Nat.le_succ _, ⟨_, _, hx, rfl, rfl, rfl, rfl⟩⟩⟩
theorem made1 (T : XTxt K prog C fI cc) {f : Str} {p1 p2 : Pos} {txt : Str} {j : Nat} {q0 q1 q2 q3 q4 q5 r1 r2 r3 r4 : Pos} (Fn : XFn K prog fI cc (iA1 f p1 p2) [iE txt j q0 q1 q2 q3 q4 q5, iF f r1 r2 r3 r4] (iS1 f) [f] txt j q0 q1 q2 q3 q4) (noN : findIn K (.ref C) f = some none)
    (hf : f ≠ "self") (hfd : (f == ("__debug__" : Str)) = false) (hfc : f ≠ "__class__") (hfs : f ≠ "super") {v : Value} {R : Result → Shared → Prop} (X : K.In s.heap) (hg : s.heap.Ns mainGlobals mg) (hb : s.heap.Ns builtinsNs mb) (hbb : ∀ x : Str, x ≠ "__name__" → mb x = bootBuiltins x)
    (hlim : s.heap.NoLimit) (hroom : A.depth + 1 < recursionLimit)
    (hq : ∀ h' tk e d, Made1 f s.heap h' e C d v → R (.ok (.ret (.ref e))) { s with heap := h', toks := tk }) : codeAny (model prog w) A (.call (.ref C) ⟨[v], []⟩) R s := by
  obtain ⟨nm, q, N, bs, bm, sn, sub, ab, col, dd, k0, k1, k2, k3, k5, hC, hbm⟩ := T.cls
  obtain ⟨hp, g, dr, tk, os⟩ := s
  have k : ∀ b o, hp.get? b = some o → ((hp.push (kdv_tup [v])).push (excO C hp.objs.size)).get? b = some o := fun b o e => Heap.get?_push_of_some _ (Heap.get?_push_of_some _ e)
  have hget : ((hp.push (kdv_tup [v])).push (excO C hp.objs.size)).get? (hp.objs.size + 1) = some (excO C hp.objs.size) := by heap_get
  have hnx : K.lookup (hp.objs.size + 1) = none := by
    cases e : K.lookup (hp.objs.size + 1) with
    | none => rfl
    | some o =>
      have z : hp.get? (hp.objs.size + 1) = some o := X _ _ e
      exact absurd (Nat.lt_of_succ_lt (Heap.lt_size z)) (Nat.lt_irrefl _)
  refine call_own F.excBase_ValueError (fun X => refsVE_contains X bm hbm) (X _ _ hC) (looks_findIn X T.iC) (fun self => bind_fn X self T.tC) (by rw [sizeLine_eq]; show 1 ≤ 16777216; decide) ?_
  refine init1 (s := ⟨(hp.push (kdv_tup [v])).push (excO C hp.objs.size), g, dr, tk, os⟩) T Fn noN hf hfd hfc hfs (X.keeps k) (hg.keeps k) (hb.keeps k) hbb (hlim.keeps k) hget hnx ?_ fun h' tk' dx t1 ⟨k', hx, dn, dne, hns⟩ => ?_
  · show A.depth + 1 < recursionLimit
    exact hroom
  · have old : ∀ b o, hp.get? b = some o → h'.get? b = some o := fun b o e => k' b o (Nat.ne_of_lt (Nat.lt_succ_of_lt (Heap.lt_size e))) (k b o e)
    have z : hp.objs.size + 1 + 1 ≤ dx := by
      first
        | (simpa only [Heap.size_push] using dn)
        | exact dn
        | (have q := dn; rw [Heap.size_push, Heap.size_push] at q; exact q)
    exact ⟨rfl, hq h' tk' (hp.objs.size + 1) dx ⟨old, Nat.le_succ _, ⟨_, _, hx, rfl, rfl, rfl, rfl⟩, Nat.le_trans (Nat.le_trans (Nat.le_succ _) (Nat.le_succ _)) z, dne, hns⟩⟩
end
end DLX
end PySem
namespace DL
open PySem PySem.Spec PyProof.Rows L2
theorem relO_1 {f : Str} {v : V} {v' : Value} (r : RelV v v') (g : Str) : RelO (List.lookup g [(f, v)]) (if g = f then some v' else none) := by
  by_cases hw : g = f
  · subst hw
    rw [if_pos rfl, List.lookup_cons]
    simp only [beq_self_eq_true]
    exact r
  · rw [if_neg hw]
    have qw : (g == f) = false := by simpa using hw
    rw [List.lookup_cons, qw]
    trivial
section
variable {X : Cx} {W : WX} {C fI cc : Addr} {nm : Str} {e : Expr} {f1 : DE S}
/-- raise X() -/
def tMk0 (C : Addr) : St → Hp → XK → Prop := fun σ H Q => Q (.ref C) none H
theorem pmk0 {p pos : Pos} {k : Nat} (T : PySem.DLX.XTxt X.K X.prog C fI cc) {p1 : Pos} {txt : Str} {j : Nat} {q0 q1 q2 q3 q4 q5 : Pos} (Fn : PySem.DLX.XFn X.K X.prog fI cc (PySem.DLX.iA0 p1) [PySem.DLX.iE txt j q0 q1 q2 q3 q4 q5] PySem.DLX.iS0 [] txt j q0 q1 q2 q3 q4)
    (hg : Gl X nm) (hm : X.mg nm = some (.ref C)) (kC : PySem.W.keepIn X.K (.ref C) = true) (exC : PySem.W.subIn X.K (.ref C) (.type "BaseException") = some true) (tyC : PySem.W.typeIn X.K (.ref C) = some (.type "type")) (hr : Room k X.A) (hdb : (nm == ("__debug__" : Str)) = false := by decide) :
    PMk X (.Call (.Name nm p) [] [] pos) (tMk0 C) := by
  intro pins s σ H Q I h
  refine wpAny_Call_Name_kw (ld_glob I hg hm ?_ hdb)
  refine PySem.W.callWith_K0 I.kIn kC ?_
  obtain ⟨mb, hb1, hb2⟩ := I.mod.blt
  refine wpAny_call (PySem.DLX.made0 T Fn I.kIn (I.mod.glob.keeps I.bk) (hb1.keeps I.bk) hb2 I.nolimit (by have := hr.dp; omega) fun h' tk' e M => ?_)
  obtain ⟨hp, g, dr, tk, os⟩ := s
  show MkP X pins σ Q (.ref e) ⟨h', g, dr, tk', os⟩
  obtain ⟨oe, fv, hoe, hc, hd, hdat, h1⟩ := M.obj
  obtain ⟨G', g1, g2⟩ := restrict h' fun b => decide (b ≠ e)
  have gk : ∀ b, b ≠ e → G'.get? b = h'.get? b := fun b hb => g1 b (decide_eq_true hb)
  have ge : G'.get? e = none := g2 e (by simp)
  have old : ∀ b o, hp.get? b = some o → G'.get? b = some o := fun b o q => (gk b (Nat.ne_of_lt (Nat.lt_of_lt_of_le (Heap.lt_size q) M.new))).trans (M.keep b o q)
  have J : Inv X pins σ H ⟨G', g, dr, tk', os⟩ := I.kept (t' := tk') old
  refine ⟨e, oe, fv, ⟨G', g, dr, tk', os⟩, _, .ref C, none, rfl, J, fun b o q => ?_, ge, hoe, ⟨hc, hd⟩, hdat, h1, I.hok.fresh M.new, rfl, I.bare, raises_own exC tyC, h⟩
  by_cases hb : b = e
  · have q' : G'.get? b = some o := q
    rw [hb, ge] at q'; cases q'
  · exact (gk b hb).symm.trans q
/-- raise X(e) -/
def tMk1 (f : Str) (C : Addr) (ta : TA) : St → Hp → XK → Prop := fun σ H Q => ta σ H fun vs H1 => ∃ v, vs = [v] ∧ ∀ d, H1 d = none → Q (.ref C) (some d) (upd H1 d (.xd [(f, v)]))
theorem pmk1 {f : Str} {ta : TA} {p pos : Pos} {k : Nat} (T : PySem.DLX.XTxt X.K X.prog C fI cc) {p1 p2 : Pos} {txt : Str} {j : Nat} {q0 q1 q2 q3 q4 q5 r1 r2 r3 r4 : Pos} (Fn : PySem.DLX.XFn X.K X.prog fI cc (PySem.DLX.iA1 f p1 p2) [PySem.DLX.iE txt j q0 q1 q2 q3 q4 q5, PySem.DLX.iF f r1 r2 r3 r4] (PySem.DLX.iS1 f) [f] txt j q0 q1 q2 q3 q4)
    (noN : PySem.W.findIn X.K (.ref C) f = some none) (hf : f ≠ "self") (hfd : (f == ("__debug__" : Str)) = false) (hfc : f ≠ "__class__") (hfs : f ≠ "super")
    (hg : Gl X nm) (hm : X.mg nm = some (.ref C)) (kC : PySem.W.keepIn X.K (.ref C) = true) (exC : PySem.W.subIn X.K (.ref C) (.type "BaseException") = some true) (tyC : PySem.W.typeIn X.K (.ref C) = some (.type "type")) (hr : Room k X.A) (ha : PA X [e] ta) (hdb : (nm == ("__debug__" : Str)) = false := by decide)
    (he : starEach (e :: []) X.env = (false, eval e X.env) :: starEach [] X.env := by rfl) (hpl : (backTo pos (starEach [] X.env)).any (·.1) = false := by rfl) :
    PMk X (.Call (.Name nm p) [e] [] pos) (tMk1 f C ta) := by
  intro pins s σ H Q I h
  refine wpAny_Call_Name_kw (ld_glob I hg hm ?_ hdb)
  refine PySem.W.callWith_K (h₀ := X.base) I.ok.mod.kin kC (thn (ha.run pos pins s σ H _ I h) fun us s1 hh => ?_) he hpl
  obtain ⟨vs, H1, I1, r1, v, ev, q1⟩ := hh
  subst ev
  refine ⟨I1.kIn, ?_⟩
  cases r1 with
  | cons rv rn =>
    rename_i v' us'
    cases rn
    show wpAny _ _ (call (.ref C) [v']) _ _ _
    obtain ⟨mb, hb1, hb2⟩ := I1.mod.blt
    have hlim := I1.nolimit
    refine wpAny_call (PySem.DLX.made1 T Fn noN hf hfd hfc hfs I1.kIn (I1.mod.glob.keeps I1.bk) (hb1.keeps I1.bk) hb2 hlim (by have := hr.dp; omega) fun h' tk' e d M => ?_)
    obtain ⟨hp, g, dr, tk, os⟩ := s1
    show MkP X pins σ Q (.ref e) ⟨h', g, dr, tk', os⟩
    obtain ⟨oe, fv, hoe, hc, hd, hdat, h1⟩ := M.obj
    have hns := M.ns
    obtain ⟨G', g1, g2⟩ := restrict h' fun b => decide (b ≠ e)
    have gk : ∀ b, b ≠ e → G'.get? b = h'.get? b := fun b hb => g1 b (decide_eq_true hb)
    have ge : G'.get? e = none := g2 e (by simp)
    have old : ∀ b o, hp.get? b = some o → G'.get? b = some o := fun b o q => (gk b (Nat.ne_of_lt (Nat.lt_of_lt_of_le (Heap.lt_size q) M.new))).trans (M.keep b o q)
    have ob : ObjOk X.prog X.w (upd H1 d (.xd [(f, v)])) G' d (.xd [(f, v)]) :=
      ⟨_, hns.at (fun o q => (gk d M.dne).trans q), fun f => relO_1 rv f⟩
    have J : Inv X pins σ (upd H1 d (.xd [(f, v)])) ⟨G', g, dr, tk', os⟩ := I1.laid (t' := tk') old M.dbig ob
    refine ⟨e, oe, fv, ⟨G', g, dr, tk', os⟩, _, .ref C, some d, rfl, J, fun b o q => ?_, ge, hoe, ⟨hc, hd⟩, hdat, h1, ?_, rfl, I1.bare, raises_own exC tyC, q1 d (I1.hok.fresh M.dbig)⟩
    · by_cases hb : b = e
      · have q' : G'.get? b = some o := q
        rw [hb, ge] at q'; cases q'
      · exact (gk b hb).symm.trans q
    · rw [upd_ne (Ne.symm M.dne)]
      exact I1.hok.fresh M.new
/-- raise X(..) as a function -/
def raise0 (C : Addr) : DS := fun ρ g => .exc C [] ρ g
def raise1 (C : Addr) (n : Str) (f : DE S) : DS := fun ρ g => (f ρ g).toO ρ fun s g1 => match s with
  | .d x => .exc C [(n, x)] ρ g1
  | _ => .bad
theorem sd_raise0 {e : Expr} {pos : Pos} (hc : X.calm = true) (tk : Takes X W) (h : PMk X e (tMk0 C)) : SD X W (.Raise (some e) none pos) (raise0 C) :=
  ps_weak (ps_raise hc tk h) fun D σ H ⟨μ, F, g, ρ, r, re, q⟩ => q μ F H σ none (.refl _ _) r re (.inl ⟨rfl, rfl⟩)
theorem sd_raise1 {n : Str} {ex : Expr} {pos : Pos} (hc : X.calm = true) (tk : Takes X W) (h : PMk X ex (tMk1 n C (tDL X.K W (consL f1 nilL)))) : SD X W (.Raise (some ex) none pos) (raise1 C n f1) :=
  ps_weak (ps_raise hc tk h) fun D σ H ⟨μ, F, g, ρ, r, re, q⟩ => by
    refine ⟨μ, F, g, ρ, r, re, ?_⟩
    have q' : PostS X.K μ F W D ((f1 ρ g).toO ρ fun s g1 => match s with
      | .d x => .exc C [(n, x)] ρ g1
      | _ => .bad) := q
    show Post (relL X.K) X.K μ F (XW W σ) ((f1 ρ g).bind fun x g1 => (R.ok [] g1).bind fun xs g2 => .ok (x :: xs) g2) _
    cases e1 : f1 ρ g with
    | bad => rw [e1] at q'; exact q'.elim
    | exc C fs g1 => rw [e1] at q'; exact fun μ1 F1 H1 d x r1 xd => q' μ1 F1 H1 σ d x r1 (re.mono x) xd
    | ok s g1 =>
      rw [e1] at q'
      cases s with
      | c n => exact q'.elim
      | i n => exact q'.elim
      | d x =>
        intro μ1 F1 H1 vs x1 r1 sv
        cases sv with
        | cons s1 t =>
          cases t
          cases s1 with
          | d hx =>
            refine ⟨_, rfl, fun dd hd => ?_⟩
            exact q' μ1 _ _ σ (some dd) (x1.trans (Ext.new (r1.fresh hd))) (r1.new hd) ((re.mono x1).mono (Ext.new (r1.fresh hd))) (.inr ⟨dd, _, rfl, upd_same, .cons (hx.mono (Ext.new (μ := μ1) (r1.fresh hd)).f) .nil⟩)
end
end DL
/-! DL7: new instances, methods, == by an own __eq__, try. -/
namespace DL
open PySem PySem.Spec PyProof.Rows L2
section
variable {X : Cx} {W : WX} {e a b c o : Expr} {es : List Expr} {pos p : Pos} {fl : DE (List S)} {f f1 f2 : DE S} {C fA : Addr} {fd : FuncData} {ps : List Str} {φ : DF} {k : Nat} {x m : Str}
theorem pass_w (tk : Takes X W) (σ : St) : PassesAt (L2.CX X.prog X.w) X σ (XW W σ) := fun _ _ _ e s' I c => tk e s' (XE.of_call I (fun _ _ _ h => h) c)
/-! ### C(..) -/
theorem run_makeS {pins : List (Addr × Obj)} {σ : St} {H : Hp} {s : Shared} {Q : VK} {us : List Value} {vs : List V} {sp : Sp} {E : XK} (M : Mk X.K C fA) (F : FnOk X.prog X.w X.K X.mg X.base (L2.CX X.prog X.w) k fA fd ps sp) (hr : Room (k + 1) X.A) (hb : Binds X.K fd ps [])
    (hx : PassesAt (L2.CX X.prog X.w) X σ E) (I : Inv X pins σ H s) (r : Vals vs us)
    (h : ∀ x dx, H x = none → H dx = none → dx ≠ x → sp (.ref x :: vs) (upd (upd H dx (.own x)) x (.ins C dx [])) (fun v H2 => v = .non ∧ Q (.ref x) H2) E) :
    wpAny (model X.prog X.w) X.A (call (.ref C) us) (EP X pins σ Q) X.xe s := by
  -- the new instance stands at nx + 1, its own dict at nx
  generalize hnx : s.heap.objs.size = nx
  have fresh : ∀ b, nx ≤ b → H b = none := fun b hb => I.hok.fresh (by rw [hnx]; exact hb)
  have wish := h (nx + 1) nx (fresh _ (Nat.le_succ nx)) (fresh _ (Nat.le_refl nx)) (Nat.ne_of_lt (Nat.lt_succ_self nx))
  have born := Inv.made (C := C) I
  rw [hnx] at born
  have pairs : Vals (V.ref (nx + 1) :: vs) (Value.ref (nx + 1) :: us) := .cons rfl r
  have bound := hb _ (Value.ref (nx + 1) :: us) born.kIn (by rw [List.append_nil, ← pairs.length, F.len _ _ _ _ wish])
  rw [List.append_nil] at bound
  have body := F.run _ X.stack _ _ ⟨Value.ref (nx + 1) :: us, []⟩ (Value.ref (nx + 1) :: us) _ _ E (hr.make C us []) (born.env0.make C us []) bound pairs wish
  refine wpAny_call (make_map (f := fA) I.kIn M.makes M.init (beq_iff_eq.mp M.fn) (codeAny_mono (by rw [← hnx] at body; exact body) fun res s2 out => ?_))
  rw [hnx] at out ⊢
  rcases res with er | fl
  · exact hx pins _ _ er s2 born out
  · cases fl <;> first | exact out.elim | skip
    obtain ⟨v, Hn, In, rv, hv, done⟩ := born.after out
    rw [hv] at rv
    exact ⟨rv, V.ref (nx + 1), Hn, In, rfl, done⟩
/-- C(..) as a new cell -/
def makeF (C : Addr) (φ : DF) : List S → G → R S := fun ss g => match φ (.c g.length :: ss) (g ++ [.ins C []]) with
  | .ok (.d .non) g2 => .ok (.c g.length) (g2.take (g.length + 1))
  | .ok _ _ => .bad
  | .exc C' fs g2 => .exc C' fs (g2.take g.length)
  | .bad => .bad
def makeC (C : Addr) (φ : DF) (fl : DE (List S)) : DE S := fun ρ g => (fl ρ g).bind (makeF C φ)
theorem make_run {pins : List (Addr × Obj)} {σ : St} {H : Hp} {s : Shared} {Q : VK} {us : List Value} {vs : List V} {μ : Mp} {F : Hp} {g : G} {ss : List S} (M : Mk X.K C fA) (kc : KC X.K C) (Fo : FnD X.prog X.w X.K X.mg X.base k fA fd ps φ) (hr : Room (k + 1) X.A) (hb : Binds X.K fd ps []) (tk : Takes X W)
    (I : Inv X pins σ H s) (r : Vals vs us) (rp : Rp X.K μ F H g) (sv : SnL X.K μ F vs ss) (hl : ss.length + 1 = ps.length) (q : Post (relS X.K) X.K μ F (XW W σ) (makeF C φ ss g) Q) :
    wpAny (model X.prog X.w) X.A (call (.ref C) us) (EP X pins σ Q) X.xe s := by
  refine run_makeS M Fo hr hb (pass_w tk σ) I r fun x dx hx hdx hne => ?_
  have rj : Rp X.K μ F (upd H dx (.own x)) g := rp.junk hdx
  have hx' : (upd H dx (.own x)) x = none := by rw [upd_ne (Ne.symm hne)]; exact hx
  have r2 := rj.push (p := x) (o := .ins C dx []) (c := .ins C []) hx' ⟨x, rfl, rj.fresh hx', dx, [], upd_same, .nil, kc⟩
  refine ⟨μ ++ [[x]], F, g ++ [.ins C []], .c g.length :: ss, r2, .cons (.c (l := []) (by rw [← rp.len]; simp)) (SnL.mono Ext.push sv), by simpa using hl, ?_⟩
  unfold makeF at q
  cases e1 : φ (.c g.length :: ss) (g ++ [.ins C []]) with
  | bad => rw [e1] at q; exact q.elim
  | exc C' fs g2 =>
    rw [e1] at q
    intro μ3 F3 H3 d x3 r3 xd
    have r4 := r3.cut g.length
    refine q (μ3.take g.length) F3 H3 d ⟨fun n a hn => ?_, x3.f⟩ r4 xd
    have hl := (List.getElem?_eq_some_iff.mp hn).1
    rw [List.getElem?_take, if_pos (by rw [← rp.len]; exact hl)]
    exact x3.m n a (Ext.push (F := F).m n a hn)
  | ok s g2 =>
    rw [e1] at q
    intro μ3 F3 H3 v x3 r3 sv3
    cases s with
    | c n => exact q.elim
    | i n => exact q.elim
    | d d =>
      cases d <;> first | exact False.elim q | skip
      cases sv3 with
      | d sv3 =>
        cases sv3
        refine ⟨rfl, ?_⟩
        have hm : μ3[g.length]? = some [x] := x3.m _ _ (by rw [← rp.len]; simp)
        refine q (μ3.take (g.length + 1)) F3 H3 _ ⟨fun n a hn => ?_, x3.f⟩ (r3.cut _) (.c (l := []) ?_)
        · have hl := (List.getElem?_eq_some_iff.mp hn).1
          rw [List.getElem?_take, if_pos (by rw [← rp.len]; omega)]
          exact x3.m n a (Ext.push (F := F).m n a hn)
        · rw [List.getElem?_take, if_pos (by omega)]; exact hm
theorem ed_make (M : Mk X.K C fA) (kc : KC X.K C) (Fo : FnD X.prog X.w X.K X.mg X.base k fA fd ps φ) (hr : Room (k + 1) X.A) (tk : Takes X W) (hg : Gl X x) (hm : X.mg x = some (.ref C)) (hb : Binds X.K fd ps [])
    (hn : (e :: es).length + 1 = ps.length) (hfl : ∀ ρ g ss g', fl ρ g = .ok ss g' → ss.length = (e :: es).length) (ha : LD X W (e :: es) fl) (hdb : (x == ("__debug__" : Str)) = false := by decide) (he : starEach (e :: es) X.env = (false, eval e X.env) :: starEach es X.env := by rfl) (hpl : (backTo pos (starEach es X.env)).any (·.1) = false := by rfl) :
    ED X W (.Call (.Name x p) (e :: es) [] pos) (makeC C φ fl) := by
  refine ⟨fun pins s σ H Q I ⟨μ, F, g, ρ, r, re, q⟩ => ?_⟩
  refine wpAny_Call_Name_kw (ld_glob I hg hm ?_ hdb)
  have q' : Post (relS X.K) X.K μ F (XW W σ) ((fl ρ g).bind (makeF C φ)) Q := q
  have q2 : Post (relL X.K) X.K μ F (XW W σ) (fl ρ g) (fun vs H1 => ∃ μ1 F1 a g1, Ext μ F μ1 F1 ∧ Rp X.K μ1 F1 H1 g1 ∧ relL X.K μ1 F1 vs a ∧ a.length = (e :: es).length ∧ Post (relS X.K) X.K μ1 F1 (XW W σ) (makeF C φ a g1) Q) := by
    cases h : fl ρ g with
    | ok ss g1 => rw [h] at q'; exact fun μ1 F1 H1 vs x r1 s1 => ⟨μ1, F1, ss, g1, x, r1, s1, hfl ρ g ss g1 h, q'.ext x⟩
    | exc C' fs g1 => rw [h] at q'; exact q'
    | bad => rw [h] at q'; exact q'.elim
  refine PySem.W.callWith_K (h₀ := X.base) I.ok.mod.kin M.kp (thn (ha.run pos pins s σ H _ I ⟨μ, F, g, ρ, r, re, q2⟩) fun us s1 ⟨vs, H1, I1, rv, μ1, F1, ss, g1, x1, r1, s1, hl, p1⟩ => ⟨I1.kIn, ?_⟩) he hpl
  exact make_run M kc Fo hr hb tk I1 rv r1 s1 (by rw [hl]; exact hn) p1
/-! ### o.m(..) -/
def methF (c : Addr) (m : Str) (φ : DF) (f : DE S) (fl : DE (List S)) : DE S := fun ρ g => (f ρ g).bind fun s g1 => match snap g1 s with
  | some (.ins C gs) => if C = c ∧ gs.lookup m = none then (fl ρ g1).bind fun ss g2 => φ (s :: ss) g2 else .bad
  | _ => .bad
theorem ed_meth {c : Addr} {pl : Sem Bool} {apos : Pos} (ho : ED X W o f) (kc : KC X.K c) (hm : Meth X.K c m fA) (Fo : FnD X.prog X.w X.K X.mg X.base k fA fd ps φ) (hr : Room k X.A) (hb : Binds X.K fd ps []) (tk : Takes X W)
    (hn : (e :: es).length + 1 = ps.length) (hfl : ∀ ρ g ss g', fl ρ g = .ok ss g' → ss.length = (e :: es).length) (ha : LD X W (e :: es) fl)
    (hst : starEach (e :: es) X.env = (false, eval e X.env) :: starEach es X.env := by rfl) (hpl : (backTo pos (starEach es X.env)).any (·.1) = false := by rfl)
    (ht : eval (.Call (.Attribute o m apos) (e :: es) [] pos) X.env = (do
      let ov ← eval o X.env
      standAt apos.atName
      let (f, first) ← holding [ov] (getMethod ov m pl)
      callWith pos f first (backTo pos (starEach (e :: es) X.env)) (backToKw pos (keywordEach [] X.env))) := by rfl) :
    ED X W (.Call (.Attribute o m apos) (e :: es) [] pos) (methF c m φ f fl) := by
  refine ⟨fun pins s σ H Q I ⟨μ, F, g, ρ, r, re, q⟩ => ?_⟩
  obtain ⟨μ0, F0, g0, ρ0, r0, re0, p0⟩ := tD.step r re q
  refine PySem.W.methodCall_KW (pl := pl) (thn (ho.run pins s σ H _ I ⟨μ0, F0, g0, ρ0, r0, re0, p0⟩) fun u s1 ⟨x, H1, I1, rx, μ1, F1, a1, g1, r1, re1, s1', p1⟩ => ?_) ht
  dsimp only at p1
  split at p1
  · rename_i C gs e1
    by_cases hC : C = c ∧ gs.lookup m = none
    · rw [if_pos hC] at p1
      obtain ⟨a, dx, fs, rfl, h1, h2, h3⟩ := snap_ins r1 s1' e1
      obtain rfl : u = Value.ref a := rx
      have hl : fs.lookup m = none := h2.lookup_none hC.2
      refine getmeth_ok I1 (by rw [← hC.1]; exact h1) kc.cl hm hl ?_
      have q2 : Post (relL X.K) X.K μ1 F1 (XW W σ) (fl ρ g1) (fun vs H1 => ∃ μ2 F2 ss g2, Ext μ1 F1 μ2 F2 ∧ Rp X.K μ2 F2 H1 g2 ∧ relL X.K μ2 F2 vs ss ∧ ss.length = (e :: es).length ∧ Post (relS X.K) X.K μ2 F2 (XW W σ) (φ (a1 :: ss) g2) Q) := by
        cases h : fl ρ g1 with
        | ok ss g2 => rw [h] at p1; exact fun μ2 F2 H2 vs x r2 s2 => ⟨μ2, F2, ss, g2, x, r2, s2, hfl ρ g1 ss g2 h, p1.ext x⟩
        | exc C' fs g2 => rw [h] at p1; exact p1
        | bad => rw [h] at p1; exact p1.elim
      refine PySem.W.callWith_K (first := [.ref a]) (h₀ := X.base) I.ok.mod.kin hm.kp (thn (ha.run pos pins s1 σ H1 _ I1 ⟨μ1, F1, g1, ρ, r1, re1, q2⟩) fun us s2 ⟨vs, H2, I2, rv, μ2, F2, ss, g2, x2, r2, s2', hl2, p2⟩ => ⟨I2.kIn, ?_⟩) hst hpl
      exact run_fnSD (E := fun σ => XW W σ) (dvs := []) (ds := []) (us := .ref a :: us) (vs := .ref a :: vs) Fo hr hb .nil (pass_w tk σ) I2 (.cons rfl rv) ⟨μ2, F2, g2, a1 :: ss, r2, by rw [List.append_nil]; exact .cons (s1'.mono x2) s2', by rw [List.length_cons, hl2]; exact hn, p2⟩
    · rw [if_neg hC] at p1; exact p1.elim
  · exact p1.elim
theorem ed_meth0 {c : Addr} {pl : Sem Bool} {apos : Pos} (ho : ED X W o f) (kc : KC X.K c) (hm : Meth X.K c m fA) (Fo : FnD X.prog X.w X.K X.mg X.base k fA fd ps φ) (hr : Room k X.A) (hb : Binds X.K fd ps []) (tk : Takes X W) (hn : 1 = ps.length)
    (ht : eval (.Call (.Attribute o m apos) [] [] pos) X.env = (do
      let ov ← eval o X.env
      standAt apos.atName
      let (f, first) ← holding [ov] (getMethod ov m pl)
      callWith pos f first (backTo pos (starEach [] X.env)) (backToKw pos (keywordEach [] X.env))) := by rfl) :
    ED X W (.Call (.Attribute o m apos) [] [] pos) (methF c m φ f nilL) := by
  refine ⟨fun pins s σ H Q I ⟨μ, F, g, ρ, r, re, q⟩ => ?_⟩
  obtain ⟨μ0, F0, g0, ρ0, r0, re0, p0⟩ := tD.step r re q
  refine PySem.W.methodCall_KW (pl := pl) (thn (ho.run pins s σ H _ I ⟨μ0, F0, g0, ρ0, r0, re0, p0⟩) fun u s1 ⟨x, H1, I1, rx, μ1, F1, a1, g1, r1, re1, s1', p1⟩ => ?_) ht
  dsimp only at p1
  split at p1
  · rename_i C gs e1
    by_cases hC : C = c ∧ gs.lookup m = none
    · rw [if_pos hC] at p1
      obtain ⟨a, dx, fs, rfl, h1, h2, h3⟩ := snap_ins r1 s1' e1
      obtain rfl : u = Value.ref a := rx
      have hl : fs.lookup m = none := h2.lookup_none hC.2
      refine getmeth_ok I1 (by rw [← hC.1]; exact h1) kc.cl hm hl ?_
      exact PySem.W.callWith_K0 (first := [.ref a]) I1.kIn hm.kp (run_fnSD (E := fun σ => XW W σ) (dvs := []) (ds := []) (us := [.ref a]) (vs := [.ref a]) Fo hr hb .nil (pass_w tk σ) I1 (.cons rfl .nil) ⟨μ1, F1, g1, [a1], r1, .cons s1' .nil, hn, p1⟩)
    · rw [if_neg hC] at p1; exact p1.elim
  · exact p1.elim
/-! ### == by an own __eq__ -/
def noX {α : Type} (r : R α) : R α := match r with
  | .exc _ _ _ => .bad
  | r => r
@[simp] def asF (r : R S) : R S := match r with
  | .ok (.d (.bl b)) g => .ok (.d (.bl b)) g
  | _ => .bad
/-- the type of a value, for a comparison -/
def rEqI (K : PySem.W.Frag) (C : Addr) (sp : Sp) : R2 := fun x y H Q => ∃ a dx fs tb, x = .ref a ∧ H a = some (.ins C dx fs) ∧ TyX K H y tb ∧ PySem.W.notFirst K C tb = true ∧ sp [x, y] H (fun v H' => (∃ b, v = .bl b) ∧ Q v H') (fun _ _ _ => False)
theorem op_eqI {c : Addr} (Fo : FnD X.prog X.w X.K X.mg X.base k fA fd ps φ) (hs : PySem.W.findIn X.K (.ref c) "__eq__" = some (some (.ref fA))) (hf : PySem.W.isFn X.K (.ref fA) = true) (hb : Binds X.K fd ps []) (hr : Room k X.A) : OpR X (compareOp .Eq) (rEqI X.K c (spD X.K ps.length φ)) := by
  intro pins s σ H x y v u Q I rx ry h
  obtain ⟨a, dx, fs, tb, rfl, ha, ty, nf, sp⟩ := h
  cases rx
  obtain ⟨mA, J, _⟩ := ins_get I.hok ha
  obtain ⟨od, J, _⟩ := J.look
  obtain ⟨m, hF⟩ := I.fr
  obtain ⟨P, Z, pz, _⟩ := kit_of I ry ty
  show wpAny (model X.prog X.w) X.A (richCompare .Eq (.ref a) u) _ _ s
  refine PySem.W.cmp_K (op := .Eq) (tb := tb) hr.units0 hF I.ok.mod.kin J (Z.ty (model X.prog X.w) s.heap I.kIn pz) nf hs hf ?_
  have r2 : Vals [V.ref a, y] [Value.ref a, u] := .cons rfl (.cons ry .nil)
  have hx : PassesAt (L2.CX X.prog X.w) X σ (fun _ _ _ => False) := fun _ _ _ e s' I c => by
    obtain ⟨_, _, _, _, _, _, _, _, _, _, _, _, z⟩ := c
    exact z.elim
  refine thn (run_fnSD (E := fun _ => fun _ _ _ => False) (dvs := []) (ds := []) Fo hr hb .nil hx I r2 (Q := fun v H' => (∃ b, v = .bl b) ∧ Q v H') (by rw [List.append_nil]; exact sp)) fun w s1 ⟨v, H1, I1, rv, ⟨b, eb⟩, q⟩ => ?_
  subst eb
  cases rv
  exact ⟨.bl b, H1, I1, rfl, q⟩
def eqI (c : Addr) (φ : DF) : S → S → G → R S := fun a b g => match snap g a, snap g b with
  | some (.ins C _), some d => if C = c then (match tyD d with
    | some _ => asF (φ [a, b] g)
    | none => match d with
      | .ins _ _ => asF (φ [a, b] g)
      | _ => .bad) else .bad
  | _, _ => .bad
theorem notFirst_t {K : PySem.W.Frag} {C : Addr} {T : String} (hT : T = "NoneType" ∨ T = "bool" ∨ T = "int" ∨ T = "str" ∨ T = "tuple" ∨ T = "list" ∨ T = "dict") : PySem.W.notFirst K C (.type T) = true := by
  unfold PySem.W.notFirst
  rcases hT with rfl | rfl | rfl | rfl | rfl | rfl | rfl <;> (unfold PySem.W.subIn; kernel_rfl)
theorem notFirst_c {K : PySem.W.Frag} {C C' : Addr} (k : KC K C') : PySem.W.notFirst K C (.ref C') = true := by
  unfold PySem.W.notFirst
  by_cases h : C' = C
  · subst h; simp
  · have e : PySem.W.subIn K (.ref C') (.ref C) = some false := by
      show PySem.W.mroIn K C' (.ref C) = some false
      rw [k.mro]
      simp [List.contains_cons, h, Ne.symm h]
    rw [e]; simp
theorem asF_post {K : PySem.W.Frag} {μ : Mp} {F : Hp} {E : XK} {r : R S} {Q : VK} (h : Post (relS K) K μ F E (asF r) Q) : Post (relS K) K μ F (fun _ _ _ => False) r (fun v H' => (∃ b, v = .bl b) ∧ Q v H') := by
  cases r with
  | bad => exact h.elim
  | exc => exact h.elim
  | ok s g =>
    cases s with
    | c n => exact h.elim
    | i n => exact h.elim
    | d d =>
      cases d <;> first | exact False.elim h | skip
      intro μ' F' H' v x r sv
      cases sv with
      | d sv => cases sv; exact ⟨⟨_, rfl⟩, h μ' F' H' _ x r (.d (.bl _))⟩
theorem opd_eqI {K : PySem.W.Frag} {c : Addr} {n : Nat} (hn : n = 2) : OpD K (rEqI K c (spD K n φ)) (eqI c φ) := by
  intro μ F H g E x y a b Q rp sx sy p
  unfold eqI at p
  split at p
  · rename_i C gs d e1 e2
    by_cases hC : C = c
    · rw [if_pos hC] at p
      obtain ⟨q, dx, fs, rfl, h1, h2, h3⟩ := snap_ins rp sx e1
      have hd := snap_ok rp sy e2
      have fin : ∀ {tb : Value}, TyX K H y tb → PySem.W.notFirst K c tb = true → Post (relS K) K μ F E (asF (φ [a, b] g)) Q → rEqI K c (spD K n φ) (.ref q) y H Q := fun {tb} ty nf p =>
        ⟨q, dx, fs, tb, rfl, by rw [← hC]; exact h1, ty, nf, μ, F, g, [a, b], rp, .cons sx (.cons sy .nil), by rw [hn]; rfl, asF_post p⟩
      cases e3 : tyD d with
      | some T => rw [e3] at p; exact fin (tyD_ok hd e3) (notFirst_t (tyD_seven e3)) p
      | none =>
        rw [e3] at p
        dsimp only at p
        cases d <;> first | exact False.elim p | skip
        obtain ⟨h4, h5⟩ := ins_ty hd
        exact fin h4 (notFirst_c h5) p
    · rw [if_neg hC] at p; exact p.elim
  · exact p.elim
/-- == : data, or an instance of the class c on the left -/
def eqX (c : Addr) (φ : DF) : S → S → G → R S := fun a b g => match snap g a with
  | some (.ins _ _) => eqI c φ a b g
  | _ => opD eqD a b g
def rEqX (K : PySem.W.Frag) (C : Addr) (sp : Sp) : R2 := fun x y H Q => rEqD K x y H Q ∨ rEqI K C sp x y H Q
theorem opd_eqX {K : PySem.W.Frag} {c : Addr} {n : Nat} (hn : n = 2) : OpD K (rEqX K c (spD K n φ)) (eqX c φ) := by
  intro μ F H g E x y a b Q rp sx sy p
  unfold eqX at p
  split at p
  · exact .inr (opd_eqI hn μ F H g E x y a b Q rp sx sy p)
  · exact .inl (opd_eq μ F H g E x y a b Q rp sx sy p)
theorem op_eqX {c : Addr} (Fo : FnD X.prog X.w X.K X.mg X.base k fA fd ps φ) (hs : PySem.W.findIn X.K (.ref c) "__eq__" = some (some (.ref fA))) (hf : PySem.W.isFn X.K (.ref fA) = true) (hb : Binds X.K fd ps []) (hr : Room k X.A) : OpR X (compareOp .Eq) (rEqX X.K c (spD X.K ps.length φ)) := opr_or (op_eqD hr.units) (op_eqI Fo hs hf hb hr)
end
end DL
/-! DL8: try .. except, several clauses, with and without names; what a suite asks of the exception. -/
namespace DL
open PySem PySem.Spec PyProof.Rows L2
/-! ### as functions -/
/-- a clause: what of the classes it takes, the name's slot, its suite -/
abbrev ClD := (Addr → Option Bool) × Option Nat × (Addr → Addr → Option Addr → DS)
def xnI (io : Option Nat) (a C : Addr) (d : Option Addr) (fs : List (Str × D)) (ρ : Env) : Env := match io with
  | none => ρ
  | some i => ρ.set i (some (.d (.xn a C d fs)))
def wipE (io : Option Nat) (ρ : Env) : Env := match io with
  | none => ρ
  | some i => ρ.set i none
def wipI (io : Option Nat) (o : O) : O := match o with
  | .nx ρ g => .nx (wipE io ρ) g
  | .bk ρ g => .bk (wipE io ρ) g
  | .ct ρ g => .ct (wipE io ρ) g
  | .rt s g => .rt s g
  | _ => .bad
/-- what all of f answers -/
noncomputable def anyO (f : Addr → Option Addr → O) : O := open Classical in if h : ∃ o, ∀ a d, f a d = o then h.choose else .bad
theorem anyO_eq {f : Addr → Option Addr → O} {o : O} (h : ∀ a d, f a d = o) : anyO f = o := by
  unfold anyO
  have e : ∃ o, ∀ a d, f a d = o := ⟨o, h⟩
  rw [dif_pos e, ← e.choose_spec 0 none, h]
theorem anyO_ok {f : Addr → Option Addr → O} (a : Addr) (d : Option Addr) (h : anyO f ≠ .bad) : f a d = anyO f := by
  unfold anyO at h ⊢
  by_cases e : ∃ o, ∀ a d, f a d = o
  · rw [dif_pos e]; exact e.choose_spec a d
  · rw [dif_neg e] at h; exact absurd rfl h
noncomputable def catD (C : Addr) (fs : List (Str × D)) (ρ : Env) (g : G) : List ClD → O
  | [] => .exc C fs ρ g
  | (sb, io, h) :: r => match sb C with
    | some true => anyO fun a d => wipI io (h a C d (xnI io a C d fs ρ) g)
    | some false => catD C fs ρ g r
    | none => .bad
noncomputable def tryS (body : DS) (cs : List ClD) : DS := fun ρ g => match body ρ g with
  | .exc C fs ρ1 g1 => catD C fs ρ1 g1 cs
  | o => o
section
variable {X : Cx} {W : WX} {body suite : List Stmt} {b₀ : Stmt} {pos np pos' : Pos} {k1 : DS} {x n : Str} {c : Value} {i : Nat} {sb : Addr → Option Bool} {h : Addr → Addr → Option Addr → DS}
/-- the slots with the exception in slot i -/
theorem Re.caught {K : PySem.W.Frag} {μ : Mp} {F : Hp} {σ : St} {ρ : DL.Env} {a C : Addr} {d : Option Addr} {gs : List (Str × D)} (re : Re K μ F σ ρ) (xd : Xd K F d gs) : Re K μ F (σ.set i (some (.ref a))) (xnI (some i) a C d gs ρ) := by
  refine Re.set (.d ?_) i re
  rcases xd with ⟨e1, e2⟩ | ⟨dx, fv, e1, h1, h2⟩
  · rw [e1, e2]; exact .xn0 a C
  · rw [e1]; exact .xn1 h1 h2
/-- the end of a suite: the name's slot is emptied -/
theorem wip_post {K : PySem.W.Frag} {μ : Mp} {F : Hp} {W1 W2 : WX} {De : Ends} {o : O} (q : PostS K μ F W1 De (wipI (some i) o)) :
    PostS K μ F W2 { nx := fun σ1 H1 => De.nx (σ1.set i none) H1, rt := De.rt, bk := fun σ1 H1 => De.bk (σ1.set i none) H1, ct := fun σ1 H1 => De.ct (σ1.set i none) H1 } o := by
  cases o with
  | exc C fs ρ g => exact False.elim q
  | bad => exact False.elim q
  | rt s g => exact q
  | nx ρ g => exact fun μ1 F1 H1 σ1 x1 r1 e1 => q μ1 F1 H1 _ x1 r1 (e1.wipe1 i)
  | bk ρ g => exact fun μ1 F1 H1 σ1 x1 r1 e1 => q μ1 F1 H1 _ x1 r1 (e1.wipe1 i)
  | ct ρ g => exact fun μ1 F1 H1 σ1 x1 r1 e1 => q μ1 F1 H1 _ x1 r1 (e1.wipe1 i)
/-- one clause, with a name -/
theorem sd_try1 (hs : X.stack = X.env :: X.outer) (hf : X.env.frame = some X.env.locals) (hN : X.N.Nodup) (hi : X.N[i]? = some n) (hln : X.env.kindOf n = some .local) (hc : Names X x c) (tk : Takes X W)
    (hb : ∀ (W : WX) (pn : List (Addr × Obj)) (xe : Value → Shared → Prop), Takes (X.tr pn xe) W → PassesOwn (model X.prog X.w) X.A X.env xe → SDs (X.tr pn xe) W body k1)
    (hsb : ∀ C b, sb C = some b → PySem.W.exmOne X.K (.ref C) c = some b)
    (hsu : ∀ (a : Addr) (oe : Obj) (C : Addr) (d : Option Addr) (pn : List (Addr × Obj)), Zc (.ref C) d oe → (∃ vs, oe.data = .fields vs) → SDs (X.suite a ((a, oe) :: pn)) W0 (b₀ :: suite) (h a C d)) :
    SD X W (.Try body [.ExceptHandler (some (.Name x np)) (some n) (b₀ :: suite) pos'] [] [] pos) (tryS k1 [(sb, some i, h)]) := by
  refine ps_weak (ps_try_as (tb := fun W => tS X.K W k1) (ts := fun a cls d De σ H => ∃ C, cls = .ref C ∧ tS X.K W0 (h a C d) De σ H) hs hf hN hi hln hc tk hb fun a oe cls d pn hz hd => ⟨fun pins s σ H De I ⟨C, ec, q⟩ => ?_⟩) fun De σ H ⟨μ, F, g, ρ, r, re, q⟩ => ⟨μ, F, g, ρ, r, re, ?_⟩
  · rw [ec] at hz
    exact (hsu a oe C d pn hz hd).run pins s σ H De I q
  unfold tryS at q
  cases e : k1 ρ g with
  | bad => rw [e] at q; exact q.elim
  | nx ρ1 g1 => rw [e] at q; exact q
  | rt s1 g1 => rw [e] at q; exact q
  | bk ρ1 g1 => rw [e] at q; exact q
  | ct ρ1 g1 => rw [e] at q; exact q
  | exc C fs ρ1 g1 =>
    rw [e] at q
    intro μ1 F1 H1 σ1 d x1 r1 re1 xd
    have q1 := PostS.ext x1 (show PostS X.K μ F W De (catD C fs ρ1 g1 [(sb, some i, h)]) from q)
    unfold catD at q1
    cases e1 : sb C with
    | none => rw [e1] at q1; exact q1.elim
    | some b =>
      rw [e1] at q1
      refine ⟨b, hsb C b e1, fun hb1 a ha => ?_, fun hb1 => ?_⟩
      · subst hb1
        dsimp only at q1
        have nb : anyO (fun a d => wipI (some i) (h a C d (xnI (some i) a C d fs ρ1) g1)) ≠ .bad := fun z => by rw [z] at q1; exact q1
        rw [← anyO_ok a d nb] at q1
        exact ⟨C, rfl, μ1, F1, g1, _, r1, Re.caught re1 xd, wip_post q1⟩
      · subst hb1
        exact q1 μ1 F1 H1 σ1 d (.refl _ _) r1 re1 xd
end
/-! ### the exception in its suite -/
theorem exc_inst {X : Cx} {a C : Addr} {oe : Obj} {d : Option Addr} {pn pins : List (Addr × Obj)} {σ : St} {H : Hp} {s : Shared} {F : Hp} {gs : List (Str × D)} (hz : Zc (.ref C) d oe) (hf : ∃ vs, oe.data = .fields vs) (I : Inv (X.suite a ((a, oe) :: pn)) pins σ H s) (e : Ex F H) (dx : Dn X.K F (.ref a) (.xn a C d gs)) : ∃ od, PySem.W.InstAt s.heap a oe C od := by
  obtain ⟨ha, _⟩ := I.pin (a, oe) (List.mem_append_left _ List.mem_cons_self)
  obtain ⟨vs, hd⟩ := hf
  cases dx with
  | xn0 =>
    refine ⟨none, ha, hz.1, by unfold PySem.W.notCls; rw [hd] <;> rfl, ?_⟩
    rw [hz.2]; trivial
  | @xn1 _ _ dd fs _ h1 h2 =>
    have hx : ObjOk X.prog X.w H s.heap dd (.xd fs) := I.hok dd _ (e _ _ h1)
    obtain ⟨mA, hns, hr⟩ := hx
    obtain ⟨od, ho, hl⟩ := lookIn_ns hns
    exact ⟨some od, ha, hz.1, by unfold PySem.W.notCls; rw [hd] <;> rfl, by rw [hz.2]; exact ho⟩

abbrev ExK := Addr ⊕ String
def exV : ExK → Value
  | .inl a => .ref a
  | .inr n => .type n
def exD : D → Option ExK
  | .adr a => some (.inl a)
  | .typ n => some (.inr n)
  | _ => none
abbrev ExT := List (Addr × ExK × Bool)
def exFind (tb : ExT) (C : Addr) (k : ExK) : Option Bool := (tb.find? fun e => decide (e.1 = C ∧ e.2.1 = k)).map (·.2.2)
theorem exFind_ok {tb : ExT} {C : Addr} {k : ExK} {b : Bool} (h : exFind tb C k = some b) : (C, k, b) ∈ tb := by
  unfold exFind at h
  cases e : tb.find? fun e => decide (e.1 = C ∧ e.2.1 = k) with
  | none => rw [e] at h; cases h
  | some y =>
    rw [e] at h
    have h2 : y.2.2 = b := by simpa using h
    have h3 := List.find?_some e
    obtain ⟨h4, h5⟩ := of_decide_eq_true h3
    have h6 := List.mem_of_find?_eq_some e
    have : y = (C, k, b) := by
      obtain ⟨y1, y2, y3⟩ := y
      dsimp only at h2 h4 h5
      subst h2 h4 h5
      rfl
    rw [← this]; exact h6
/-- isinstance(e, T) in the suite of (a, d) -/
def isxS (a C0 : Addr) (d : Option Addr) (tb : ExT) : List S → G → R S := fun ss g => match ss with
  | [.d (.xn a' C d' _), .d k] => if a' = a ∧ C = C0 ∧ d' = d then (match exD k with
    | some k => match exFind tb C k with
      | some b => .ok (.d (.bl b)) g
      | none => .bad
    | none => .bad) else .bad
  | _ => .bad
def rIsx (K : PySem.W.Frag) (a C : Addr) (d : Option Addr) (tb : ExT) : List V → Hp → VK → Prop := fun xs H Q => ∃ (F : Hp) (gs : List (Str × D)) (c : V) (k : ExK) (b : Bool), xs = [.ref a, c] ∧ Ex F H ∧ Dn K F (.ref a) (.xn a C d gs) ∧ (∀ u, RelV c u → u = exV k) ∧ exFind tb C k = some b ∧ Q (.bl b) H
structure ExTOk (K : PySem.W.Frag) (tb : ExT) : Prop where
  cc : ∀ e ∈ tb, L2.ExcC K e.1
  kk : ∀ e ∈ tb, PySem.W.kitOne K (.ref e.1) (exV e.2.1) = some e.2.2
theorem zc_cls {cls cls' : Value} {d d' : Option Addr} {oe : Obj} (h : Zc cls d oe) (h' : Zc cls' d' oe) : cls = cls' ∧ d = d' := ⟨h.1.symm.trans h'.1, h.2.symm.trans h'.2⟩
theorem call_isx {X : Cx} {a C : Addr} {d : Option Addr} {oe : Obj} {pn : List (Addr × Obj)} {tb : ExT} (T : ExTOk X.K tb) (hz : Zc (.ref C) d oe) (hf : ∃ vs, oe.data = .fields vs) : CallR (X.suite a ((a, oe) :: pn)) (.builtin "isinstance") (rIsx X.K a C d tb) := by
  intro pins s σ H xs us Q I r h
  obtain ⟨F, gs, c, k, b, rfl, ex, dx, hcv, e, q⟩ := h
  cases r with
  | cons rx rr =>
    cases rr with
    | cons rt rr =>
      cases rr
      cases rx
      have ec := hcv _ rt
      subst ec
      obtain ⟨od, J⟩ := exc_inst hz hf I ex dx
      have hm := exFind_ok e
      have cC := T.cc _ hm
      have ck := T.kk _ hm
      exact PySem.W.kia_one (PySem.W.kitx_exc (by obtain ⟨cd, hc, _⟩ := PySem.W.any_some cC.hd; rw [hc]; rfl) cC.hg cC.hk cC.hs cC.ha cC.hn cC.ht cC.hm) I.kIn J ck (fun z => nomatch z) fun tk => ⟨.bl b, H, I.kept (t' := tk) fun _ _ z => z, rfl, q⟩
theorem cd_isx {K : PySem.W.Frag} {a C : Addr} {d : Option Addr} {tb : ExT} : CallD K (rIsx K a C d tb) (isxS a C d tb) := by
  intro μ F H g E vs ss Q rp sv p
  unfold isxS at p
  split at p
  · rename_i a' C' d' gs k
    by_cases hc : a' = a ∧ C' = C ∧ d' = d
    · rw [if_pos hc] at p
      obtain ⟨rfl, rfl, rfl⟩ := hc
      cases e1 : exD k with
      | none => rw [e1] at p; exact p.elim
      | some kk =>
        rw [e1] at p
        dsimp only at p
        cases e2 : exFind tb C' kk with
        | none => rw [e2] at p; exact p.elim
        | some b =>
          rw [e2] at p
          cases sv with
          | cons s1 t =>
            cases t with
            | cons s2 t =>
              cases t
              cases s1 with
              | d hx =>
                cases s2 with
                | d hk =>
                  rename_i v1 v2
                  have ev : v1 = V.ref a' := by
                    cases hx <;> rfl
                  subst ev
                  refine ⟨F, gs, _, kk, b, rfl, rp.ex, hx, ?_, e2, Post.ok p rp (.d (.bl _))⟩
                  cases hk <;> first | (cases e1; done) | skip
                  · cases e1
                    intro u hu
                    exact hu
                  · cases e1
                    intro u hu
                    exact hu
    · rw [if_neg hc] at p; exact p.elim
  · exact p.elim
/-- e.n in the suite -/
def xfS (a C0 : Addr) (d : Option Addr) (C1 : Addr) (n : Str) : S → G → R S := fun s g => match s with
  | .d (.xn a' C d' gs) => if a' = a ∧ C = C0 ∧ d' = d ∧ C0 = C1 then (match gs.lookup n with
    | some x => .ok (.d x) g
    | none => .bad) else .bad
  | _ => .bad
theorem ed_xf {X : Cx} {a C C1 : Addr} {d : Option Addr} {oe : Obj} {pn : List (Addr × Obj)} {e : Expr} {f : DE S} {pos : Pos} {n : Str} {W : WX} (T : XfC X.K C1) (hno : PySem.W.findIn X.K (.ref C1) n = some none) (hz : Zc (.ref C) d oe) (hf : ∃ vs, oe.data = .fields vs)
    (he : ED (X.suite a ((a, oe) :: pn)) W e f) (hb : attributeBase e n X.env (eval e X.env) = eval e X.env := by rfl) : ED (X.suite a ((a, oe) :: pn)) W (.Attribute e n pos) (fun ρ g => (f ρ g).bind (xfS a C d C1 n)) :=
  pe_weak (pe_xf T hno hz hf he hb) fun σ H Q ⟨μ, F, g, ρ, r, re, q⟩ => by
    refine ⟨μ, F, g, ρ, r, re, (Post.step (rel := relS X.K) q).imp fun x H1 ⟨μ1, F1, s1, g1, x1, r1, sv, p⟩ => ?_⟩
    unfold xfS at p
    split at p
    · rename_i a' C' d' gs
      by_cases hc : a' = a ∧ C' = C ∧ d' = d ∧ C = C1
      · rw [if_pos hc] at p
        obtain ⟨rfl, rfl, rfl, rfl⟩ := hc
        cases e2 : gs.lookup n with
        | none => rw [e2] at p; exact p.elim
        | some y =>
          rw [e2] at p
          cases sv with
          | d hx =>
            cases hx with
            | xn0 => cases e2
            | @xn1 _ _ dx fs _ h1 h2 =>
              obtain ⟨v, h3, h4⟩ := h2.lookup e2
              exact ⟨rfl, rfl, dx, fs, v, rfl, r1.ex _ _ h1, h3, Post.ok p r1 (.d h4)⟩
      · rw [if_neg hc] at p; exact p.elim
    · exact p.elim
end DL
/-! DL9: the tape's display, * with tuples, dict displays. -/
namespace DL
open PySem PySem.Spec PyProof.Rows L2
section
variable {X : Cx} {W : WX} {e a b : Expr} {es : List Expr} {pos : Pos} {fl : DE (List S)} {f f1 f2 : DE S}
/-! ### [x, .., [n, ..], ..]: a list with one list of ints in it -/
def intsD : List D → Option (List Int)
  | [] => some []
  | .int i :: r => (intsD r).map (i :: ·)
  | _ => none
theorem intsD_ok {K : PySem.W.Frag} {F : Hp} : ∀ {vs : List V} {ds : List D} {is : List Int}, DnL K F vs ds → intsD ds = some is → vs = is.map V.int
  | _, _, _, .nil, h => by cases h; rfl
  | _, d :: ds, is, .cons (v := v) h r, e => by
    cases h <;> first | (cases e; done) | skip
    rename_i i
    have e' : (intsD ds).map (i :: ·) = some is := e
    cases q : intsD ds with
    | none => rw [q] at e'; cases e'
    | some js =>
      rw [q] at e'
      cases e'
      rw [List.map_cons, intsD_ok r q]
/-- data, one cell, data -/
def tpSplit : List S → Option (List D × Nat × List D)
  | [] => none
  | .d x :: r => (tpSplit r).map fun y => (x :: y.1, y.2)
  | .c n :: r => (allD r).map fun ds => ([], n, ds)
  | .i _ :: _ => none
theorem tpSplit_ok {K : PySem.W.Frag} {μ : Mp} {F : Hp} : ∀ {vs : List V} {ss : List S} {pre post : List D} {n : Nat}, SnL K μ F vs ss → tpSplit ss = some (pre, n, post) → ∃ xs b l ys, vs = xs ++ V.ref b :: ys ∧ μ[n]? = some (b :: l) ∧ DnL K F xs pre ∧ DnL K F ys post
  | _, _, _, _, _, .nil, h => by cases h
  | _, s :: r, pre, post, n, .cons (a := v) h t, e => by
    cases h with
    | d h =>
      rename_i x
      have e' : (tpSplit r).map (fun y => (x :: y.1, y.2)) = some (pre, n, post) := e
      cases q : tpSplit r with
      | none => rw [q] at e'; cases e'
      | some y =>
        obtain ⟨y1, y2, y3⟩ := y
        rw [q] at e'
        cases e'
        obtain ⟨xs, b, l, ys, h1, h2, h3, h4⟩ := tpSplit_ok t q
        exact ⟨v :: xs, b, l, ys, by rw [h1]; rfl, h2, .cons h h3, h4⟩
    | @c m b l h =>
      have e' : (allD r).map (fun ds => (([] : List D), m, ds)) = some (pre, n, post) := e
      cases q : allD r with
      | none => rw [q] at e'; cases e'
      | some ds =>
        rw [q] at e'
        cases e'
        exact ⟨[], b, l, _, rfl, h, .nil, allD_ok t q⟩
    | i h => cases e
def tapD (fl : DE (List S)) : DE S := fun ρ g => (fl ρ g).bind fun xs g1 => match tpSplit xs with
  | some (pre, n, post) => match g1[n]? with
    | some (.lst ds) => match intsD ds with
      | some cs => if xs.length ≤ 1000 then .ok (.c g1.length) (g1.set n .dead ++ [.tp pre cs post]) else .bad
      | none => .bad
    | _ => .bad
  | none => .bad
theorem ed_tap (h : LD X W es fl) : ED X W (.List es pos) (tapD fl) :=
  pe_weak (pe_lst h) fun σ H Q ⟨μ, F, g, ρ, r, re, q⟩ => by
    obtain ⟨μ0, F0, g0, ρ0, r0, re0, p0⟩ := tDL.step r re q
    refine ⟨μ0, F0, g0, ρ0, r0, re0, p0.imp fun x H1 ⟨μ1, F1, a1, g1, r1, re1, s1, p1⟩ => ?_⟩
    cases e1 : tpSplit a1 with
    | none => simp only [e1] at p1; exact p1.elim
    | some y =>
      obtain ⟨pre, n, post⟩ := y
      simp only [e1] at p1
      obtain ⟨xs, b, l, ys, rfl, hm, dp, dq⟩ := tpSplit_ok s1 e1
      obtain ⟨cc, hc, ok⟩ := r1.cell hm
      rw [hc] at p1
      cases cc <;> first | exact False.elim p1 | skip
      rename_i ds
      dsimp only at p1
      cases e2 : intsD ds with
      | none => rw [e2] at p1; exact p1.elim
      | some cs =>
        rw [e2] at p1
        dsimp only at p1
        by_cases hl : a1.length ≤ 1000
        · rw [if_pos hl] at p1
          obtain ⟨b', z, hF, zs, h5, h6⟩ := id ok
          cases z
          have hz := intsD_ok h6 e2
          subst hz
          refine ⟨by rw [Paired.length s1]; exact le1000 hl, fun p hp => ?_⟩
          have hbp : b ≠ p := ne_of_none h5 hp
          have rk : Rp X.K μ1 F1 H1 (g1.set n .dead) := r1.kill
          have rj : Rp X.K μ1 F1 (upd H1 p (.lst (xs ++ V.ref b :: ys))) (g1.set n .dead) := rk.junk hp
          have ra := rj.add (fp := [p, b]) (c := .tp pre cs post) ⟨p, b, rfl, Ne.symm hbp, r1.fresh hp, hF, xs, ys, upd_same, dp, dq, by rw [upd_ne hbp]; exact h5⟩ (fun m fq d c h1 h2 hd hc' hq => by
            have hmn : m ≠ n ∧ g1[m]? = some d := by
              by_cases qn : m = n
              · subst qn
                rw [List.getElem?_set_self (List.getElem?_eq_some_iff.mp hc).1] at h2
                exact absurd (Option.some.inj h2).symm hd
              · rw [List.getElem?_set_ne (Ne.symm qn)] at h2
                exact ⟨qn, h2⟩
            simp at hc'
            rcases hc' with rfl | rfl
            · exact r1.ne hp h1 hmn.2 hd c hq rfl
            · exact r1.dj n m _ fq _ d c hm h1 hc hmn.2 (by intro z; cases z) hd (Ne.symm hmn.1) (by simp) hq)
          exact p1 (μ1 ++ [[p, b]]) F1 _ _ Ext.push ra (.c (l := [b]) (by rw [← r1.len]; simp))
        · rw [if_neg hl] at p1; exact p1.elim
/-! ### * -/
def mulS : S → S → G → R S := fun a b g => match a with
  | .d (.tup ds) => match b with
    | .d (.int k) => if ds ≠ [] ∧ 2 ≤ k ∧ k ≤ 1000 ∧ ds.length ≤ 1000 then .ok (.d (.tup (List.replicate k.toNat ds).flatten)) g else .bad
    | _ => .bad
  | _ => opD mulD a b g
theorem DnL.rep {K : PySem.W.Frag} {F : Hp} {vs : List V} {ds : List D} (h : DnL K F vs ds) : ∀ n : Nat, DnL K F (List.replicate n vs).flatten (List.replicate n ds).flatten
  | 0 => .nil
  | n + 1 => by
    rw [List.replicate_succ, List.replicate_succ, List.flatten_cons, List.flatten_cons]
    exact h.append (DnL.rep h n)
def rMulX (K : PySem.W.Frag) : R2 := fun x y H Q => rI CMulW (fun i j => .int (i * j)) x y H Q ∨ rRepT K x y H Q
theorem op_mulX : OpR X (binaryOp .Mult) (rMulX X.K) := opr_or op_mulW op_repT
theorem opd_mulX {K : PySem.W.Frag} : OpD K (rMulX K) mulS := by
  intro μ F H g E x y a b Q rp sx sy p
  unfold mulS at p
  split at p
  · rename_i ds
    split at p
    · rename_i k
      by_cases hc : ds ≠ [] ∧ 2 ≤ k ∧ k ≤ 1000 ∧ ds.length ≤ 1000
      · rw [if_pos hc] at p
        obtain ⟨hne, h1, h2, h3⟩ := hc
        cases sx with
        | d sx =>
        cases sx with
        | @tup l xs _ hq hl =>
        cases sy with
        | d sy =>
        cases sy
        have hqH := ex_t rp.ex hq
        refine .inr ⟨l, k, xs, rfl, rfl, hqH, ?_, h1, h2, by rw [hl.length]; exact h3, fun q hq2 => ?_⟩
        · intro z
          subst z
          cases hl
          exact hne rfl
        · exact p μ _ _ _ (Ext.new (rp.fresh hq2)) (rp.new hq2) (.d (.tup (SqT.of upd_same) ((hl.rep k.toNat).mono (Ext.new (μ := μ) (rp.fresh hq2)).f)))
      · rw [if_neg hc] at p; exact p.elim
    · exact p.elim
  · exact .inl (opd_mul μ F H g E x y a b Q rp sx sy p)
theorem ed_mulX (h1 : ED X W a f1) (h2 : ED X W b f2) : ED X W (.BinOp a .Mult b pos) (bin2 f1 f2 mulS) := ed_bin (fun _ _ p q => pe_op op_mulX p q) h1 h2 opd_mulX
/-! ### dict displays, as data -/
theorem ed_dct0 : ED X W (.Dict [] [] pos) (cD (.dct [])) := pe_weak pe_dnewK fun σ H Q ⟨μ, F, g, ρ, r, re, q⟩ => fun p hp =>
  q μ _ _ _ (Ext.new (r.fresh hp)) (r.new hp) (.d (.dct upd_same .nil))
theorem ed_dct {keys : List (Option Expr)} {values : List Expr} {trs : List (TE × TE)} {kvs : List (Key × V)} {ds : List (Key × D)} (h : PPs X pos keys values trs) (hall : keys.all (·.isSome) = true) (hlen : keys.length = values.length) (h0 : keys ≠ []) (h15 : keys.length ≤ 15)
    (ht : ∀ σ H Q, tPairs trs σ H Q = Q (kvs.map fun kv => (kV kv.1, kv.2)) H) (hl : kvs.length ≤ 15) (hd : ∀ F, DnK X.K F (mergeK [] kvs) ds) : ED X W (.Dict keys values pos) (cD (.dct ds)) :=
  pe_weak (pe_disp h hall hlen h0 h15) fun σ H Q ⟨μ, F, g, ρ, r, re, q⟩ => fun p hp => by
    rw [ht]
    refine ⟨upd_same, kvs, rfl, hl, ?_⟩
    rw [upd_upd]
    exact q μ _ _ _ (Ext.new (r.fresh hp)) (r.new hp) (.d (.dct upd_same (hd _)))
/-- - x -/
def negD : D → Option D
  | .int i => some (.int (-i))
  | _ => none
@[simp] def negS : S → G → R S := fun s g => match s with
  | .d (.int i) => .ok (.d (.int (-i))) g
  | _ => .bad
theorem ed_neg (h : ED X W a f1) : ED X W (.UnaryOp .USub a pos) (un1D negS f1) :=
  pe_weak (pe_un un_neg h) fun σ H Q ⟨μ, F, g, ρ, r, re, q⟩ => by
    refine ⟨μ, F, g, ρ, r, re, (Post.step (rel := relS X.K) q).imp fun x H1 ⟨μ1, F1, s1, g1, x1, r1, sv, p⟩ => ?_⟩
    unfold negS at p
    split at p
    · rename_i i
      cases sv with
      | d hx =>
        cases hx
        exact ⟨i, rfl, Post.ok p r1 (.d (.int _))⟩
    · exact p.elim
end
end DL
/-! DL10: ends. -/
namespace DL
open PySem PySem.Spec PyProof.Rows L2
def spLaw (K : PySem.W.Frag) : Sp := fun vs H Q _ => ∃ (a : Addr) (ns : List Int), vs = [.ref a] ∧ SqL K H a (ns.map V.int) ∧ ns.length ≤ 63 ∧ (∀ z ∈ ns, Builtin.Int.intBits z ≤ 1048576) ∧ ∀ H', Q (.bl true) H'
theorem law_imp {P : Program} {w : World} {K : PySem.W.Frag} {mg : Str → Option Value} {base : Heap} {k : Nat} {f : Addr} {fd : FuncData} {x : Str} {φ : DF} (F : FnD P w K mg base k f fd [x] φ)
    (h : ∀ ns : List Int, ns.length ≤ 63 → (∀ z ∈ ns, Builtin.Int.intBits z ≤ 1048576) → ∃ g, φ [.d (.scr ns)] [] = .ok (.d (.bl true)) g) : FnOk P w K mg base (L2.CX P w) k f fd [x] (spLaw K) := by
  refine FnOk.imp F fun vs H Q E ⟨a, ns, e, hs, hl, hb, q⟩ => ?_
  subst e
  obtain ⟨g, hg⟩ := h ns hl hb
  refine ⟨[], H, [], [.d (.scr ns)], ⟨fun _ _ e => e, rfl, fun n fp c h1 _ => by simp at h1, fun n m fp fq c d a h1 => by simp at h1⟩, .cons (.d (.scr hs)) .nil, rfl, ?_⟩
  rw [hg]
  intro μ' F' H' v _ _ sv
  cases sv with
  | d sv => cases sv; exact q H'
theorem law_end {P : Program} {w : World} {K : PySem.W.Frag} (H : Hp) (a : Addr) (ns : List Int) (hl : ns.length ≤ 63) (hb : ∀ z ∈ ns, Builtin.Int.intBits z ≤ 1048576) (hS : SqL K H a (ns.map V.int)) : spLaw K [.ref a] H (fun v _ => v = .bl true) fun _ _ _ => False :=
  ⟨a, ns, rfl, hS, hl, hb, fun _ => rfl⟩
theorem cx_end {P : Program} {w : World} (H : Hp) (s : Shared) (e : Value) (s' : Shared) (h : L2.CX P w [] H s (fun _ _ _ => False) e s') : False := by
  first
    | exact h
    | (obtain ⟨_, _, _, _, _, _, _, _, _, _, _, _, z⟩ := h; exact z.elim)
theorem xargs0 {p1 : Pos} (fd : FuncData) (us : List Value) (h1 : fd.params = PySem.DLX.iA0 p1) (h2 : fd.defaults = .none) (h3 : fd.kwdefaults = .none) (h4 : us.length = 1) : bindArgs fd ⟨us, []⟩ = pure ((("self" : Str) :: []).zip us) :=
  match us, h4 with
  | [_], _ => by
    cases fd
    dsimp only at h1 h2 h3
    subst h1 h2 h3
    rfl
theorem pe_gc {X : Cx} {x : Str} {pos : Pos} {v : V} (hg : Gl X x) (h : ∃ u, X.mg x = some u ∧ RelV v u) (hd : (x == ("__debug__" : Str)) = false := by decide) : PE X (.Name x pos) (tC v) := by
  obtain ⟨u, hm, r⟩ := h
  exact pe_glob hg hm r hd
end DL
/-! DLW: reckoning with the functions: no program in sight. -/
namespace DL
open PySem PySem.Spec L2
section
variable (i j : Int) (a b : D)
@[simp] theorem addD_i : addD (.int i) (.int j) = some (.int (i + j)) := rfl
@[simp] theorem subD_i : subD (.int i) (.int j) = some (.int (i - j)) := rfl
@[simp] theorem ltD_i : ltD (.int i) (.int j) = some (.bl (decide (i < j))) := rfl
@[simp] theorem leD_i : leD (.int i) (.int j) = some (.bl (decide (i ≤ j))) := rfl
@[simp] theorem gtD_i : gtD (.int i) (.int j) = some (.bl (decide (j < i))) := rfl
@[simp] theorem geD_i : geD (.int i) (.int j) = some (.bl (decide (j ≤ i))) := rfl
@[simp] theorem mulD_i : mulD (.int i) (.int j) = if lg i + lg j < 1000000 then some (.int (i * j)) else none := by
  unfold mulD fIC
  by_cases h : lg i + lg j < 1000000 <;> simp [h]
@[simp] theorem divD_i : divD (.int i) (.int j) = if j ≠ 0 ∧ lg j < 9000 then some (.int (i.fdiv j)) else none := by
  unfold divD fIC
  by_cases h : j ≠ 0 ∧ lg j < 9000 <;> simp [h]
@[simp] theorem modD_i : modD (.int i) (.int j) = if j ≠ 0 then some (.int (i.fmod j)) else none := by
  unfold modD fIC
  by_cases h : j = 0 <;> simp [h]
@[simp] theorem powD_i : powD (.int i) (.int j) = if 0 ≤ j ∧ j ≤ 1000000 ∧ i.natAbs < 2 ^ 64 then some (.int (i ^ j.toNat)) else none := by
  unfold powD fIC
  by_cases h : 0 ≤ j ∧ j ≤ 1000000 ∧ i.natAbs < 2 ^ 64 <;> simp [h]
@[simp] theorem eqD_a : eqD a b = (eqF a b).map D.bl := rfl
@[simp] theorem neD_a : neD a b = (eqF a b).map fun b => D.bl (!b) := rfl
end
/-! ### data with a Lean type -/
class Enc (α : Type) [DecidableEq α] [PySem.W.Datum α] where
  encd : α → D
  py : ∀ a : α, toPy (encd a) = some (PySem.W.Datum.toD (α := α) a)
  lay : ∀ a : α, (PySem.W.Datum.toD (α := α) a).canLay0 = true
abbrev enc {α : Type} [DecidableEq α] [PySem.W.Datum α] [Enc α] (a : α) : D := Enc.encd a
instance : Enc Int := ⟨.int, fun _ => rfl, fun _ => rfl⟩
instance : Enc Bool := ⟨.bl, fun _ => rfl, fun _ => rfl⟩
instance : Enc Unit := ⟨fun _ => .non, fun _ => rfl, fun _ => rfl⟩
section
variable {α β γ : Type} [DecidableEq α] [PySem.W.Datum α] [Enc α] [DecidableEq β] [PySem.W.Datum β] [Enc β] [DecidableEq γ] [PySem.W.Datum γ] [Enc γ]
theorem toPyL_enc : ∀ xs : List α, toPyL (xs.map enc) = some (xs.map PySem.W.Datum.toD)
  | [] => rfl
  | x :: xs => by
    rw [List.map_cons, List.map_cons, toPyL, Enc.py x, toPyL_enc xs]
theorem layAll_enc : ∀ xs : List α, PyData.canLayAll0 (xs.map PySem.W.Datum.toD) = true
  | [] => rfl
  | x :: xs => by
    rw [List.map_cons, PyData.canLayAll0, Enc.lay x, layAll_enc xs]; rfl
instance : Enc (PySem.W.Tup α) := ⟨fun t => .tup (t.items.map enc), fun t => by simp only [toPy]; rw [toPyL_enc]; rfl, fun t => by
  show PyData.canLay0 (.tuple _) = true
  simp only [PyData.canLay0]; exact layAll_enc _⟩
instance : Enc (List α) := ⟨fun t => .lst (t.map enc), fun t => by simp only [toPy]; rw [toPyL_enc]; rfl, fun t => by
  show PyData.canLay0 (.list _) = true
  simp only [PyData.canLay0]; exact layAll_enc _⟩
instance : Enc (α × β) := ⟨fun p => .tup [enc p.1, enc p.2], fun p => by
  simp only [toPy, toPyL, Enc.py]; rfl, fun p => by
  show PyData.canLay0 (.tuple [_, _]) = true
  simp only [PyData.canLay0, PyData.canLayAll0, Enc.lay]; rfl⟩
instance : Enc (PySem.W.T3 α β γ) := ⟨fun p => .tup [enc p.a, enc p.b, enc p.c], fun p => by
  simp only [toPy, toPyL, Enc.py]; rfl, fun p => by
  show PyData.canLay0 (.tuple [_, _, _]) = true
  simp only [PyData.canLay0, PyData.canLayAll0, Enc.lay]; rfl⟩
theorem eqF_enc (h : PySem.W.Datum.depth α ≤ 64) (a b : α) : eqF (enc a) (enc b) = some (decide (a = b)) := by
  unfold eqF
  rw [Enc.py, Enc.py]
  have s : ∀ a : α, SeqAt.shaped (PySem.W.Datum.toD a) = true := fun a => by
    unfold SeqAt.shaped
    rw [Enc.lay, Bool.true_and]
    exact decide_eq_true (Nat.le_trans (PySem.W.Datum.depth_le a) h)
  dsimp only
  rw [s a, s b, PySem.W.Datum.eqv]
  rfl
end
@[simp] theorem eqF_int (i j : Int) : eqF (.int i) (.int j) = some (decide (i = j)) := eqF_enc (α := Int) (by decide) i j
@[simp] theorem eqF_str (i j : Str) (h1 : PyData.strOk i = true) (h2 : PyData.strOk j = true) : eqF (.str i) (.str j) = some (decide (i = j)) := by
  have s : ∀ i : Str, PyData.strOk i = true → SeqAt.shaped (.str i) = true := fun i h => by
    unfold SeqAt.shaped
    simp [PyData.canLay0, h, PyData.depth]
  unfold eqF
  simp only [toPy, s i h1, s j h2]
  have := PySem.W.Datum.eqv (α := Str) i j
  have e : PyData.eqv (.str i) (.str j) = decide (i = j) := this
  rw [e]
  rfl
@[simp] theorem eqF_bl (i j : Bool) : eqF (.bl i) (.bl j) = some (decide (i = j)) := eqF_enc (α := Bool) (by decide) i j
theorem isi_ty (c : Addr → Bool) (d : D) (T n : String) (g : G) (h : tyD d = some T) (b : Bool) (hb : isTy T n = some b) : isiS c [.d d, .d (.typ n)] g = .ok (.d (.bl b)) g := by
  unfold isiS
  simp only [snap_d]
  rw [h]
  simp only [hb]

theorem sfld_ok {c : Addr} {n : Str} {fo fv : DE S} {ρ : DL.Env} {g : G} {x : D} {p : Nat} {gs : List (Str × D)} (hv : fv ρ g = .ok (.d x) g) (ho : fo ρ g = .ok (.c p) g) (hp : g[p]? = some (.ins c gs)) (hl : gs.length < 900) : sfldS c n fo fv ρ g = .nx ρ (g.set p (.ins c (putD n x gs))) := by
  unfold sfldS
  rw [hv]
  dsimp only [R.toO_ok]
  rw [ho]
  dsimp only [R.toO_ok]
  rw [hp]
  dsimp only
  rw [if_pos ⟨rfl, hl⟩]
theorem take_set_self (g : G) (p : Nat) (c : Cell) : (g.set p c).take g.length = g.set p c := List.take_of_length_le (by rw [List.length_set]; exact Nat.le_refl _)
theorem take_app1 (g : G) (c : Cell) : (g ++ [c]).take (g.length + 1) = g ++ [c] := List.take_of_length_le (by simp)
/-! ### comprehensions -/
@[simp] theorem wipeE_nil (ρ : Env) : wipeE ρ [] = ρ := rfl
@[simp] theorem wipeE_cons (ρ : Env) (v : Nat) (vs : List Nat) : wipeE ρ (v :: vs) = (wipeE ρ vs).set v none := rfl
theorem app_get (g : G) (c : Cell) : (g ++ [c])[g.length]? = some c := by simp
theorem app_set (g : G) (c d : Cell) : (g ++ [c]).set g.length d = g ++ [d] := by
  rw [List.set_append_right _ _ (Nat.le_refl _), Nat.sub_self]; rfl
theorem app_take (g : G) (c : Cell) : (g ++ [c]).take g.length = g := by simp
/-- items that are reckoned without a step of the state -/
theorem compL_map (h : DG) (t : DE Bool) (el : DE S) (ρ : Env) (g : G) (f : D → D) : ∀ (ds acc : List D),
    (∀ d ∈ ds, ∀ acc, ∃ ρ1, h (.d d) ρ = some ρ1 ∧ t ρ1 (g ++ [.lst acc]) = .ok true (g ++ [.lst acc]) ∧ el ρ1 (g ++ [.lst acc]) = .ok (.d (f d)) (g ++ [.lst acc])) → acc.length + ds.length ≤ 10000000 →
    compL g.length h t el ρ ds (g ++ [.lst acc]) = some (g ++ [.lst (acc ++ ds.map f)])
  | [], acc, _, _ => by simp [compL]
  | d :: ds, acc, hs, hl => by
    obtain ⟨ρ1, h1, h2, h3⟩ := hs d List.mem_cons_self acc
    unfold compL
    rw [h1]; dsimp only
    rw [h2]; dsimp only
    rw [h3]; dsimp only
    rw [app_get]; dsimp only
    rw [List.length_cons] at hl
    rw [if_pos (by omega), app_set, compL_map h t el ρ g f ds (acc ++ [f d]) (fun e he => hs e (List.mem_cons_of_mem _ he)) (by rw [List.length_append]; simp; omega)]
    simp
theorem compD_map {it : DE (List D)} {vs : List Nat} {h : DG} {t : DE Bool} {el : DE S} {ρ : Env} {g g1 : G} {ds : List D} (f : D → D) (hi : it ρ g = .ok ds g1)
    (hs : ∀ d ∈ ds, ∀ acc, ∃ ρ1, h (.d d) (wipeE ρ vs) = some ρ1 ∧ t ρ1 (g1 ++ [.lst acc]) = .ok true (g1 ++ [.lst acc]) ∧ el ρ1 (g1 ++ [.lst acc]) = .ok (.d (f d)) (g1 ++ [.lst acc])) (hl : ds.length ≤ 10000000) :
    compD it vs h t el ρ g = .ok (.d (.lst (ds.map f))) g1 := by
  unfold compD
  rw [hi]
  dsimp only [R.bind_ok]
  rw [compL_map h t el (wipeE ρ vs) g1 f ds [] hs (by simpa using hl)]
  simp
/-- items that step the state on: I n says how it stands when n items are to come -/
theorem compL_st (h : DG) (t : DE Bool) (el : DE S) (ρ : Env) (I : Nat → G → Prop) (P : D → Prop) : ∀ (ds acc : List D) (g : G) (n : Nat), g.length = n → I ds.length g → (∀ x ∈ acc, P x) →
    (∀ d ∈ ds, ∀ k acc g, g.length = n → I (k + 1) g → ∃ ρ1 x g', h (.d d) ρ = some ρ1 ∧ t ρ1 (g ++ [.lst acc]) = .ok true (g ++ [.lst acc]) ∧ el ρ1 (g ++ [.lst acc]) = .ok (.d x) (g' ++ [.lst acc]) ∧ g'.length = n ∧ I k g' ∧ P x) → acc.length + ds.length ≤ 10000000 →
    ∃ g' xs, compL n h t el ρ ds (g ++ [.lst acc]) = some (g' ++ [.lst xs]) ∧ g'.length = n ∧ I 0 g' ∧ xs.length = acc.length + ds.length ∧ ∀ x ∈ xs, P x
  | [], acc, g, n, hn, hi, hp, _, _ => ⟨g, acc, by simp [compL], hn, hi, by simp, hp⟩
  | d :: ds, acc, g, n, hn, hi, hp, hs, hl => by
    obtain ⟨ρ1, x, g', h1, h2, h3, h4, h5, h6⟩ := hs d List.mem_cons_self ds.length acc g hn hi
    rw [List.length_cons] at hl
    obtain ⟨g2, xs, e, q1, q2, q3, q4⟩ := compL_st h t el ρ I P ds (acc ++ [x]) g' n h4 h5 (fun y hy => by
      rcases List.mem_append.mp hy with z | z
      · exact hp y z
      · simp at z; rw [z]; exact h6) (fun e he => hs e (List.mem_cons_of_mem _ he)) (by rw [List.length_append]; simp; omega)
    refine ⟨g2, xs, ?_, q1, q2, by rw [q3]; simp; omega, q4⟩
    unfold compL
    rw [h1]; dsimp only
    rw [h2]; dsimp only
    rw [h3]; dsimp only
    subst hn
    rw [← h4, app_get]; dsimp only
    rw [if_pos (by omega), app_set, h4]
    exact e
theorem compD_st {it : DE (List D)} {vs : List Nat} {h : DG} {t : DE Bool} {el : DE S} {ρ : Env} {g g1 : G} {ds : List D} (I : Nat → G → Prop) (P : D → Prop) (hi : it ρ g = .ok ds g1) (h0 : I ds.length g1)
    (hs : ∀ d ∈ ds, ∀ k acc g, g.length = g1.length → I (k + 1) g → ∃ ρ1 x g', h (.d d) (wipeE ρ vs) = some ρ1 ∧ t ρ1 (g ++ [.lst acc]) = .ok true (g ++ [.lst acc]) ∧ el ρ1 (g ++ [.lst acc]) = .ok (.d x) (g' ++ [.lst acc]) ∧ g'.length = g1.length ∧ I k g' ∧ P x) (hl : ds.length ≤ 10000000) :
    ∃ xs g', compD it vs h t el ρ g = .ok (.d (.lst xs)) g' ∧ g'.length = g1.length ∧ I 0 g' ∧ xs.length = ds.length ∧ ∀ x ∈ xs, P x := by
  obtain ⟨g', xs, e, q1, q2, q3, q4⟩ := compL_st h t el (wipeE ρ vs) I P ds [] g1 g1.length rfl h0 (fun x hx => by cases hx) hs (by simpa using hl)
  refine ⟨xs, g', ?_, q1, q2, by simpa using q3, q4⟩
  unfold compD
  rw [hi]
  dsimp only [R.bind_ok]
  rw [e]
  dsimp only
  rw [← q1, app_get]
  dsimp only
  rw [app_take]
theorem inR_nat (k : Nat) (hk : k ≤ 1000) : inR (k : Int) = true := by
  unfold inR
  simp only [Int.reducePow, Int.reduceNeg]
  exact decide_eq_true ⟨by omega, by omega⟩
theorem rangeL_len (k : Nat) : (rangeL 0 k).length = k := by
  unfold rangeL
  rw [List.length_map, List.length_range]; omega
theorem range1_at {j : Int} {f : DE S} {ρ : DL.Env} {g : G} (hf : f ρ g = .ok (.d (.int j)) g) (h : inR j = true) : range1 (consL f nilL) ρ g = .ok (rangeL 0 j) g := by
  have e : consL f nilL ρ g = .ok [.d (.int j)] g := by
    unfold consL
    rw [hf]
    rfl
  unfold range1
  rw [e]
  dsimp only [R.bind]
  rw [h]
  rfl
theorem range_ok {j : Int} {k : Nat} (h : j = (k : Int)) (hk : k ≤ 1000) {f : DE S} {ρ : DL.Env} {g : G} (hf : f ρ g = .ok (.d (.int j)) g) : ∃ ds : List D, range1 (consL f nilL) ρ g = .ok ds g ∧ ds.length = k :=
  ⟨rangeL 0 j, range1_at hf (by rw [h]; exact inR_nat k hk), by rw [h]; exact rangeL_len k⟩
/-! ### loops -/
theorem loopS_inv (h : DG) (body : DS) (I : Nat → Env → G → Prop) (Rt : S → G → Prop) : ∀ (ds : List D) (ρ : Env) (g : G), I ds.length ρ g →
    (∀ d ∈ ds, ∀ k ρ g, I (k + 1) ρ g → ∃ ρ1, h (.d d) ρ = some ρ1 ∧ ((∃ ρ2 g2, body ρ1 g = .nx ρ2 g2 ∧ I k ρ2 g2) ∨ ∃ s g2, body ρ1 g = .rt s g2 ∧ Rt s g2)) →
    (∃ ρ2 g2, loopS h body ds ρ g = .nx ρ2 g2 ∧ I 0 ρ2 g2) ∨ ∃ s g2, loopS h body ds ρ g = .rt s g2 ∧ Rt s g2
  | [], ρ, g, hi, _ => .inl ⟨ρ, g, rfl, hi⟩
  | d :: ds, ρ, g, hi, hs => by
    obtain ⟨ρ1, h1, h2⟩ := hs d List.mem_cons_self ds.length ρ g hi
    unfold loopS
    rw [h1]
    dsimp only
    rcases h2 with ⟨ρ2, g2, h2, h3⟩ | ⟨s, g2, h2, h3⟩
    · rw [h2]
      dsimp only
      exact loopS_inv h body I Rt ds ρ2 g2 h3 fun e he => hs e (List.mem_cons_of_mem _ he)
    · rw [h2]
      exact .inr ⟨s, g2, rfl, h3⟩
end DL
/-! DLT: the laws' tape: _law_pool and _law_draw as functions, and what a draw answers. -/
namespace DL
open PySem PySem.Spec L2
def seedB : DS := asgS 1 (bin2 (cbD (un1 intD) (consL (bin2 (bin2 (bin2 (varD 1) (cD (.int 48271)) mulS) (bin2 (cbD (un1 intD) (consL (varD 2) (nilL))) (cD (.int 2147483629)) (opD modD)) addS) (cD (.int 11)) addS) (nilL))) (cD (.int 2147483647)) (opD modD))
def bigT : DE Bool := asB (bin2 (cbD (un1 absD) (consL (varD 2) (nilL))) (bin2 (cD (.int 10)) (cD (.int 18)) (opD powD)) (opD geD))
def bigE : DE S := cbD (un1 absD) (consL (varD 2) (nilL))
def poolS : DS :=
  seqS (asgS 1 (bin2 (bin2 (bin2 (cbD (un1 intD) (consL (cbD (un1 sumD) (consL (slD (varD 0) (noO) (someO (cD (.int 1)))) (nilL))) (nilL))) (cD (.int 1000003)) (opD modD)) (cbD (un1 lenD) (consL (varD 0) (nilL))) addS) (cD (.int 1)) addS)) (seqS (forS (seqI (slD (varD 0) (noO) (someO (cD (.int 63))))) (nameG 2) seedB) (retS (tapD (consL (varD 1) (consL (cD (.int 0)) (consL (compC (seqI (slD (varD 0) (noO) (someO (cD (.int 63))))) [2] (nameG 2) bigT bigE) (nilL)))))))
def drawS : DS :=
  seqS (putSt (varD 0) (cD (.int 1)) (bin2 (bin2 (varD 0) (cD (.int 1)) ixS) (cD (.int 1)) addS)) (seqS (asgS 2 (bin2 (varD 0) (cD (.int 2)) ixS)) (seqS (ifS (asB (bin2 (cbD (un1 lenD) (consL (varD 2) (nilL))) (cD (.int 0)) (opD gtD))) (seqS (asgS 4 (bin2 (cbD (un1 intD) (consL (bin2 (varD 2) (cD (.int 0)) ixS) (nilL))) (varD 1) (opD modD))) (seqS (putSt (varD 2) (cD (.int 0)) (bin2 (cbD (un1 intD) (consL (bin2 (varD 2) (cD (.int 0)) ixS) (nilL))) (varD 1) (opD divD))) (seqS (ifS (asB (bin2 (bin2 (varD 2) (cD (.int 0)) ixS) (cD (.int 0)) (opD eqD))) (exprS (mthL popIS (varD 2) (consL (cD (.int 0)) (nilL)))) (nextS)) (retS (varD 4))))) (nextS)) (seqS (asgS 3 (bin2 (cbD (un1 intD) (consL (bin2 (bin2 (bin2 (varD 0) (cD (.int 0)) ixS) (bin2 (cD (.int 7919)) (bin2 (varD 0) (cD (.int 1)) ixS) mulS) addS) (cD (.int 48271)) mulS) (nilL))) (cD (.int 2147483647)) (opD modD))) (seqS (asgS 3 (bin2 (cbD (un1 intD) (consL (bin2 (varD 3) (bin2 (bin2 (varD 3) (cD (.int 1009)) (opD divD)) (cD (.int 69621)) addS) mulS) (nilL))) (cD (.int 2147483647)) (opD modD))) (seqS (asgS 3 (bin2 (cbD (un1 intD) (consL (bin2 (varD 3) (bin2 (bin2 (varD 3) (cD (.int 2003)) (opD divD)) (cD (.int 40692)) addS) mulS) (nilL))) (cD (.int 2147483399)) (opD modD))) (retS (bin2 (cbD (un1 intD) (consL (bin2 (varD 3) (cD (.int 16)) (opD divD)) (nilL))) (varD 1) (opD modD))))))))
def drawF : DF := defD 5 drawS
def poolF : DF := defC 3 poolS
/-- the tape's cell; n: how many draws are left -/
def TapeC (n : Nat) (c : Cell) : Prop := ∃ (a b : Int) (cs : List Int), c = .tp [.int a, .int b] cs [] ∧ 0 ≤ a ∧ a < 2147483647 ∧ 0 ≤ b ∧ b + n ≤ 1000000000000 ∧ ∀ x ∈ cs, 0 ≤ x
def TapeAt (p n : Nat) (g : G) : Prop := ∃ c, g[p]? = some c ∧ TapeC n c
/-- but for the tape at p all is as it was -/
def Tk (p n : Nat) (g g' : G) : Prop := ∃ c, TapeC n c ∧ g' = g.set p c
theorem TapeC.mono {n m : Nat} {c : Cell} (h : TapeC n c) (hm : m ≤ n) : TapeC m c := by
  obtain ⟨a, b, cs, e, h1, h2, h3, h4, h5⟩ := h
  exact ⟨a, b, cs, e, h1, h2, h3, by omega, h5⟩
theorem TapeAt.mono {p n m : Nat} {g : G} (h : TapeAt p n g) (hm : m ≤ n) : TapeAt p m g := by
  obtain ⟨c, e, h⟩ := h
  exact ⟨c, e, h.mono hm⟩
theorem TapeAt.lt {p n : Nat} {g : G} (h : TapeAt p n g) : p < g.length := by
  obtain ⟨c, e, _⟩ := h
  exact (List.getElem?_eq_some_iff.mp e).1
theorem Tk.at {p n m : Nat} {g g' : G} (k : Tk p n g g') (h : TapeAt p m g) : TapeAt p n g' := by
  obtain ⟨c, hc, rfl⟩ := k
  exact ⟨c, List.getElem?_set_self h.lt, hc⟩
theorem Tk.len {p n : Nat} {g g' : G} (k : Tk p n g g') : g'.length = g.length := by
  obtain ⟨c, hc, rfl⟩ := k
  simp
theorem Tk.trans {p n m : Nat} {g g1 g2 : G} (a : Tk p n g g1) (b : Tk p m g1 g2) : Tk p m g g2 := by
  obtain ⟨c, hc, rfl⟩ := a
  obtain ⟨d, hd, rfl⟩ := b
  exact ⟨d, hd, by rw [List.set_set]⟩
theorem Tk.refl {p n : Nat} {g : G} (h : TapeAt p n g) : Tk p n g g := by
  obtain ⟨c, e, hc⟩ := h
  refine ⟨c, hc, ?_⟩
  obtain ⟨hl, e⟩ := List.getElem?_eq_some_iff.mp e
  rw [← e]; simp
theorem Tk.mono {p n m : Nat} {g g' : G} (k : Tk p n g g') (hm : m ≤ n) : Tk p m g g' := by
  obtain ⟨c, hc, e⟩ := k
  exact ⟨c, hc.mono hm, e⟩
theorem Tk.get {p n : Nat} {g g' : G} (k : Tk p n g g') {i : Nat} (h : i ≠ p) : g'[i]? = g[i]? := by
  obtain ⟨c, hc, rfl⟩ := k
  rw [List.getElem?_set_ne (Ne.symm h)]
theorem Tk.app {p n : Nat} {g g' : G} {r : G} (k : Tk p n (g ++ r) g') (h : p < g.length) : ∃ g1, g' = g1 ++ r ∧ Tk p n g g1 := by
  obtain ⟨c, hc, rfl⟩ := k
  exact ⟨g.set p c, by rw [List.set_append_left _ _ h], c, hc, rfl⟩
theorem TapeAt.app {p n : Nat} {g r : G} (h : TapeAt p n g) : TapeAt p n (g ++ r) := by
  have hl := h.lt
  obtain ⟨c, e, hc⟩ := h
  exact ⟨c, by rw [List.getElem?_append_left hl]; exact e, hc⟩
theorem Tk.take {p n : Nat} {g g' : G} (k : Tk p n g g') (m : Nat) : g'.take m = (g.take m) ∨ ∃ c, TapeC n c ∧ g'.take m = (g.take m).set p c := by
  obtain ⟨c, hc, rfl⟩ := k
  exact .inr ⟨c, hc, by rw [List.take_set]⟩
theorem lg_le {i : Int} {k : Nat} (h : i.natAbs < 2 ^ k) : lg i ≤ k := by
  unfold lg
  by_cases h0 : i.natAbs = 0
  · rw [h0]; simp
  · exact Nat.le_of_lt ((Nat.log2_lt h0).mpr h)
theorem lg_mul {i j : Int} {a b : Nat} (h1 : i.natAbs < 2 ^ a) (h2 : j.natAbs < 2 ^ b) (h : a + b < 1000000) : lg i + lg j < 1000000 := by
  have := lg_le h1
  have := lg_le h2
  omega
theorem mulS_int (i j : Int) (g : G) (h : lg i + lg j < 1000000) : mulS (.d (.int i)) (.d (.int j)) g = .ok (.d (.int (i * j))) g := by
  show opD mulD (.d (.int i)) (.d (.int j)) g = _
  simp [h]
@[simp] theorem addS_int (i j : Int) (g : G) : addS (.d (.int i)) (.d (.int j)) g = .ok (.d (.int (i + j))) g := rfl
theorem atI0 {α : Type} (x : α) (xs : List α) : atI (x :: xs) 0 = some x := by
  unfold atI ixN
  rw [if_pos (Int.le_refl _), if_pos (by simp)]
  rfl
theorem tp_ix0 {g : G} {p : Nat} {x y : D} {cs : List Int} (h : g[p]? = some (.tp [x, y] cs [])) : ixS (.c p) (.d (.int 0)) g = .ok (.d x) g := by
  unfold ixS
  dsimp only
  rw [h]
  rfl
theorem tp_ix1 {g : G} {p : Nat} {x y : D} {cs : List Int} (h : g[p]? = some (.tp [x, y] cs [])) : ixS (.c p) (.d (.int 1)) g = .ok (.d y) g := by
  unfold ixS
  dsimp only
  rw [h]
  rfl
theorem tp_ix2 {g : G} {p : Nat} {x y : D} {cs : List Int} (h : g[p]? = some (.tp [x, y] cs [])) : ixS (.c p) (.d (.int 2)) g = .ok (.i p) g := by
  unfold ixS
  dsimp only
  rw [h]
  rfl
theorem tp_put1 {g : G} {p : Nat} {x y v : D} {cs : List Int} (h : g[p]? = some (.tp [x, y] cs [])) : putS (.d v) (.c p) (.d (.int 1)) g = some (g.set p (.tp [x, v] cs [])) := by
  unfold putS
  dsimp only
  rw [h]
  rfl
theorem in_ix0 {g : G} {p : Nat} {pre post : List D} {c : Int} {cs : List Int} (h : g[p]? = some (.tp pre (c :: cs) post)) : ixS (.i p) (.d (.int 0)) g = .ok (.d (.int c)) g := by
  unfold ixS
  simp only [readL, h, List.map_cons, atI0]
theorem in_put0 {g : G} {p : Nat} {pre post : List D} {c v : Int} {cs : List Int} (h : g[p]? = some (.tp pre (c :: cs) post)) : putS (.d (.int v)) (.i p) (.d (.int 0)) g = some (g.set p (.tp pre (v :: cs) post)) := by
  unfold putS
  dsimp only
  rw [h]
  dsimp only
  rw [show ixN (c :: cs).length 0 = some 0 by unfold ixN; rw [if_pos (Int.le_refl _), if_pos (by simp)]; rfl]
  rfl
theorem in_pop0 {g : G} {p : Nat} {pre post : List D} {c : Int} {cs : List Int} (h : g[p]? = some (.tp pre (c :: cs) post)) : popIS (.i p) [.d (.int 0)] g = .ok (.d (.int c)) (g.set p (.tp pre cs post)) := by
  have e : seqIndex? 0 (c :: cs).length = some 0 := by
    unfold seqIndex?
    simp
  unfold popIS
  dsimp only
  rw [if_pos (by decide), h]
  dsimp only
  rw [e]
  rfl
theorem fm_lt {i j : Int} (h : 0 < j) : 0 ≤ i.fmod j ∧ i.fmod j < j := ⟨Int.fmod_nonneg_of_pos _ h, Int.fmod_lt_of_pos _ h⟩
theorem fd_bd {i j : Int} (h0 : 0 ≤ i) (h : 0 < j) : 0 ≤ i.fdiv j ∧ i.fdiv j ≤ i := by
  rw [Int.fdiv_eq_ediv_of_nonneg _ (by omega)]
  exact ⟨Int.ediv_nonneg h0 (by omega), Int.ediv_le_self _ h0⟩
theorem draw_ok {g : G} {p n : Nat} (T : TapeAt p (n + 1) g) {m : Int} (hm : 0 < m) (hl : lg m < 9000) : ∃ v g', drawF [.c p, .d (.int m)] g = .ok (.d (.int v)) g' ∧ Tk p n g g' ∧ 0 ≤ v ∧ v < m := by
  have hlt := T.lt
  obtain ⟨c, hc, a, b, cs, rfl, ha, ha2, hb, hb2, hcs⟩ := T
  have m0 : m ≠ 0 := by omega
  cases cs with
  | nil =>
    have h1 := fm_lt (i := (a + 7919 * (b + 1)) * 48271) (j := 2147483647) (by decide)
    have h2 := fd_bd (i := ((a + 7919 * (b + 1)) * 48271).fmod 2147483647) (j := 1009) h1.1 (by decide)
    have h3 := fm_lt (i := ((a + 7919 * (b + 1)) * 48271).fmod 2147483647 * ((((a + 7919 * (b + 1)) * 48271).fmod 2147483647).fdiv 1009 + 69621)) (j := 2147483647) (by decide)
    have k1 : ∀ g : G, mulS (.d (.int 7919)) (.d (.int (b + 1))) g = .ok (.d (.int (7919 * (b + 1)))) g := fun g => mulS_int _ _ _ (lg_mul (a := 13) (b := 64) (by decide) (by omega) (by decide))
    have k2 : ∀ g : G, mulS (.d (.int (a + 7919 * (b + 1)))) (.d (.int 48271)) g = .ok (.d (.int ((a + 7919 * (b + 1)) * 48271))) g := fun g => mulS_int _ _ _ (lg_mul (a := 128) (b := 16) (by omega) (by decide) (by decide))
    generalize hx : ((a + 7919 * (b + 1)) * 48271).fmod 2147483647 = x at *
    have k3 : ∀ g : G, mulS (.d (.int x)) (.d (.int (x.fdiv 1009 + 69621))) g = .ok (.d (.int (x * (x.fdiv 1009 + 69621)))) g := fun g => mulS_int _ _ _ (lg_mul (a := 64) (b := 64) (by omega) (by omega) (by decide))
    generalize hy : (x * (x.fdiv 1009 + 69621)).fmod 2147483647 = y at *
    have h4 := fd_bd (i := y) (j := 2003) h3.1 (by decide)
    have k4 : ∀ g : G, mulS (.d (.int y)) (.d (.int (y.fdiv 2003 + 40692))) g = .ok (.d (.int (y * (y.fdiv 2003 + 40692)))) g := fun g => mulS_int _ _ _ (lg_mul (a := 64) (b := 64) (by omega) (by omega) (by decide))
    generalize hz : (y * (y.fdiv 2003 + 40692)).fmod 2147483399 = z at *
    have h5 := fm_lt (i := z.fdiv 16) (j := m) hm
    refine ⟨(z.fdiv 16).fmod m, g.set p (.tp [.int a, .int (b + 1)] [] []), ?_, ⟨_, ⟨a, b + 1, [], rfl, ha, ha2, by omega, by omega, by simp⟩, rfl⟩, h5.1, h5.2⟩
    have hs : (g.set p (.tp [.int a, .int (b + 1)] [] []))[p]? = some (.tp [.int a, .int (b + 1)] [] []) := List.getElem?_set_self hlt
    have d1 : lg 1009 < 9000 := by decide
    have d2 : lg 2003 < 9000 := by decide
    have d3 : lg 16 < 9000 := by decide
    unfold drawF defD drawS
    simp [putSt, tp_ix1 hc, tp_put1 hc, tp_ix2 hs, tp_ix0 hs, tp_ix1 hs, snap, hs, k1, k2, hx, k3, hy, k4, hz, d1, d2, d3, m0, finD]
    rw [List.take_of_length_le (by simp)]
  | cons c cs =>
    have hc0 : 0 ≤ c := hcs c List.mem_cons_self
    have h1 := fm_lt (i := c) (j := m) hm
    have h2 := fd_bd (i := c) (j := m) hc0 hm
    have hs : (g.set p (.tp [.int a, .int (b + 1)] (c :: cs) []))[p]? = some (.tp [.int a, .int (b + 1)] (c :: cs) []) := List.getElem?_set_self hlt
    have hs2 : (g.set p (.tp [.int a, .int (b + 1)] (c.fdiv m :: cs) []))[p]? = some (.tp [.int a, .int (b + 1)] (c.fdiv m :: cs) []) := List.getElem?_set_self hlt
    have gt : (0 : Int) < (cs.length : Int) + 1 := by omega
    by_cases h0 : c.fdiv m = 0
    · refine ⟨c.fmod m, g.set p (.tp [.int a, .int (b + 1)] cs []), ?_, ⟨_, ⟨a, b + 1, cs, rfl, ha, ha2, by omega, by omega, fun x hx => hcs x (List.mem_cons_of_mem _ hx)⟩, rfl⟩, h1.1, h1.2⟩
      rw [h0] at hs2
      unfold drawF defD drawS
      simp [putSt, tp_ix1 hc, tp_put1 hc, tp_ix2 hs, snap, hs, gt, in_ix0 hs, in_put0 hs, List.set_set, in_ix0 hs2, in_pop0 hs2, m0, hl, mthL, readLL, readL, hs2, h0, finD]
      rw [List.take_of_length_le (by simp)]
    · refine ⟨c.fmod m, g.set p (.tp [.int a, .int (b + 1)] (c.fdiv m :: cs) []), ?_, ⟨_, ⟨a, b + 1, c.fdiv m :: cs, rfl, ha, ha2, by omega, by omega, fun x hx => ?_⟩, rfl⟩, h1.1, h1.2⟩
      · unfold drawF defD drawS
        simp [putSt, tp_ix1 hc, tp_put1 hc, tp_ix2 hs, snap, hs, gt, in_ix0 hs, in_put0 hs, List.set_set, in_ix0 hs2, m0, hl, h0, finD]
        rw [List.take_of_length_le (by simp)]
      · rcases List.mem_cons.mp hx with rfl | z
        · exact h2.1
        · exact hcs x (List.mem_cons_of_mem _ z)

/-! ### the pool -/
theorem sl1 (ns : List Int) (ρ : Env) (g : G) (k : Int) (f : DE S) (hf : f ρ g = .ok (.d (.scr ns)) g) : slD f noO (someO (cD (.int k))) ρ g = .ok (.d (.lst (cutL (ns.map D.int) none (some k)))) g := by
  unfold slD
  simp [hf, readLL, readL]
theorem intsD_map (cs : List Int) : intsD (cs.map D.int) = some cs := by
  induction cs with
  | nil => rfl
  | cons c cs ih => rw [List.map_cons, intsD, ih]; rfl
theorem cut_map (ns : List Int) (lo hi : Option Int) : cutL (ns.map D.int) lo hi = (cutL ns lo hi).map D.int := by
  unfold cutL
  rw [List.length_map, List.map_take, List.map_drop]
/-- the great ones are picked out -/
theorem compL_big (ρ : Env) (hρ : ρ.length = 3) (g : G) : ∀ (ns acc : List Int), (∀ x ∈ acc, 0 ≤ x) → acc.length + ns.length ≤ 10000000 →
    ∃ cs : List Int, compL g.length (nameG 2) bigT bigE ρ (ns.map D.int) (g ++ [.lst (acc.map D.int)]) = some (g ++ [.lst (cs.map D.int)]) ∧ ∀ x ∈ cs, 0 ≤ x
  | [], acc, h, _ => ⟨acc, by simp [compL], h⟩
  | n :: ns, acc, h, hl => by
    rw [List.length_cons] at hl
    have hab : 0 ≤ (if n < 0 then -n else n) := by split <;> omega
    have hv : (ρ.set 2 (some (.d (.int n))))[2]? = some (some (.d (.int n))) := List.getElem?_set_self (by omega)
    have e1 : bigT (ρ.set 2 (some (.d (.int n)))) (g ++ [.lst (acc.map D.int)]) = .ok (decide ((1000000000000000000 : Int) ≤ (if n < 0 then -n else n))) (g ++ [.lst (acc.map D.int)]) := by
      unfold bigT
      simp [hv]
    have e2 : bigE (ρ.set 2 (some (.d (.int n)))) (g ++ [.lst (acc.map D.int)]) = .ok (.d (.int (if n < 0 then -n else n))) (g ++ [.lst (acc.map D.int)]) := by
      unfold bigE
      simp [hv]
    rw [List.map_cons]
    unfold compL
    dsimp only [nameG]
    rw [e1]
    by_cases hb : (1000000000000000000 : Int) ≤ (if n < 0 then -n else n)
    · obtain ⟨cs, e, hc⟩ := compL_big ρ hρ g ns (acc ++ [if n < 0 then -n else n]) (fun x hx => by
        rcases List.mem_append.mp hx with z | z
        · exact h x z
        · simp at z; rw [z]; exact hab) (by rw [List.length_append]; simp; omega)
      refine ⟨cs, ?_, hc⟩
      rw [decide_eq_true hb]
      dsimp only
      rw [e2]
      dsimp only
      rw [app_get]
      dsimp only
      rw [if_pos (by rw [List.length_map]; omega), app_set]
      rw [List.map_append] at e
      exact e
    · obtain ⟨cs, e, hc⟩ := compL_big ρ hρ g ns acc h (by omega)
      refine ⟨cs, ?_, hc⟩
      rw [decide_eq_false hb]
      exact e
theorem loop_seed : ∀ (ns : List Int) (s : Int) (x : S) (y : Option S) (g : G), 0 ≤ s → s < 1000100000 ∨ s < 2147483647 →
    ∃ (t : Int) (z : Option S), loopS (nameG 2) seedB (ns.map D.int) [some x, some (.d (.int s)), y] g = .nx [some x, some (.d (.int t)), z] g ∧ 0 ≤ t ∧ t < 2147483647
  | [], s, x, y, g, h0, h1 => ⟨s, y, rfl, h0, by omega⟩
  | n :: ns, s, x, y, g, h0, h1 => by
    have k1 : ∀ g : G, mulS (.d (.int s)) (.d (.int 48271)) g = .ok (.d (.int (s * 48271))) g := fun g => mulS_int _ _ _ (lg_mul (a := 64) (b := 16) (by omega) (by decide) (by decide))
    have h2 := fm_lt (i := s * 48271 + n.fmod 2147483629 + 11) (j := 2147483647) (by decide)
    obtain ⟨t, z, e, h3, h4⟩ := loop_seed ns ((s * 48271 + n.fmod 2147483629 + 11).fmod 2147483647) x (some (.d (.int n))) g h2.1 (.inr h2.2)
    refine ⟨t, z, ?_, h3, h4⟩
    have e1 : seedB [some x, some (.d (.int s)), some (.d (.int n))] g = .nx [some x, some (.d (.int ((s * 48271 + n.fmod 2147483629 + 11).fmod 2147483647))), some (.d (.int n))] g := by
      unfold seedB
      simp [k1]
    rw [List.map_cons]
    unfold loopS
    dsimp only [nameG, List.set]
    rw [e1]
    exact e
theorem pool_ok (ns : List Int) (hl : ns.length ≤ 63) : ∃ c, poolF [.d (.scr ns)] [] = .ok (.c 1) [.dead, c] ∧ TapeC 1000000000000 c := by
  have h1 := fm_lt (i := (cutL ns none (some 1)).sum) (j := 1000003) (by decide)
  obtain ⟨t, z, e, h3, h4⟩ := loop_seed (cutL ns none (some 63)) ((cutL ns none (some 1)).sum.fmod 1000003 + ns.length + 1) (.d (.scr ns)) none [] (by omega) (.inl (by omega))
  have hcl : (cutL ns none (some 63)).length ≤ 63 := by
    unfold cutL
    rw [List.length_take]
    have := HT.sIx_le ns.length ns.length (Nat.le_refl _) (some 63)
    omega
  obtain ⟨cs, e2, hc⟩ := compL_big [some (.d (.scr ns)), some (.d (.int t)), none] rfl [] (cutL ns none (some 63)) [] (by simp) (by simp; omega)
  refine ⟨.tp [.int t, .int 0] cs [], ?_, ⟨t, 0, cs, rfl, h3, h4, Int.le_refl _, by decide, hc⟩⟩
  have s1 : ∀ (ρ : Env) (g : G) (k : Int), ρ[0]? = some (some (.d (.scr ns))) → slD (varD 0) noO (someO (cD (.int k))) ρ g = .ok (.d (.lst ((cutL ns none (some k)).map D.int))) g := fun ρ g k h => by
    rw [sl1 ns ρ g k (varD 0) (by simp [h]), cut_map]
  have e3 : compC (seqI (slD (varD 0) (noO) (someO (cD (.int 63))))) [2] (nameG 2) bigT bigE [some (.d (.scr ns)), some (.d (.int t)), z] [] = .ok (.c 0) [.lst (cs.map D.int)] := by
    unfold compC seqI
    rw [s1 _ _ _ rfl]
    simp only [R.bind_ok, itemsD, wipeE_cons, wipeE_nil]
    have e2' : compL ([] : G).length (nameG 2) bigT bigE ([some (.d (.scr ns)), some (.d (.int t)), z].set 2 none) ((cutL ns none (some 63)).map D.int) ([] ++ [.lst []]) = some ([] ++ [.lst (cs.map D.int)]) := e2
    rw [e2']
    rfl
  unfold poolF defC poolS
  simp [s1, sumD, forS, e, e3, tapD, tpSplit, intsD_map]
end DL
namespace Lk24
open PySem PySem.Spec PyProof.Rows L2 DL

def top (i : Nat) : Stmt := PySem.Challenge.pw_turnsneeded_k24_tasks_judged.main.body.getD i (.Pass ⟨0, 0, 0, 0⟩)
abbrev s__law_pool : Stmt := top 14
abbrev s__law_draw : Stmt := top 15
abbrev s__law_number : Stmt := top 20
abbrev s_is_integer : Stmt := top 4
abbrev s_are_integers : Stmt := top 5
abbrev s_are_within : Stmt := top 6
abbrev s_are_numbers : Stmt := top 11
abbrev s_Task___init__ : Stmt := inClass (top 12) 0
abbrev s__law_told : Stmt := top 26
abbrev s__law_is_int : Stmt := top 17
abbrev s__law_are_ints : Stmt := top 18
abbrev s__law_are_numbers : Stmt := top 21
abbrev s__law_due : Stmt := top 22
abbrev s_Task___eq__ : Stmt := inClass (top 12) 1
abbrev s__law_is_right : Stmt := top 27
abbrev s__law_deep : Stmt := top 19
abbrev s__law_bent : Stmt := top 24
abbrev s__law_bent_rows : Stmt := top 25
abbrev s__law_odd : Stmt := top 23
abbrev s_law : Stmt := top 28
theorem bt_ValueError : bootBuiltins "ValueError" = some (.type "ValueError") := by decide +kernel
theorem bt_abs : bootBuiltins "abs" = some (.builtin "abs") := by decide +kernel
theorem bt_all : bootBuiltins "all" = some (.builtin "all") := by decide +kernel
theorem bt_bool : bootBuiltins "bool" = some (.type "bool") := by decide +kernel
theorem bt_int : bootBuiltins "int" = some (.type "int") := by decide +kernel
theorem bt_isinstance : bootBuiltins "isinstance" = some (.builtin "isinstance") := by decide +kernel
theorem bt_len : bootBuiltins "len" = some (.builtin "len") := by decide +kernel
theorem bt_list : bootBuiltins "list" = some (.type "list") := by decide +kernel
theorem bt_range : bootBuiltins "range" = some (.type "range") := by decide +kernel
theorem bt_sum : bootBuiltins "sum" = some (.builtin "sum") := by decide +kernel
theorem bt_tuple : bootBuiltins "tuple" = some (.type "tuple") := by decide +kernel
structure Ad where
  _law_pool : Addr
  _law_draw : Addr
  _law_number : Addr
  is_integer : Addr
  are_integers : Addr
  are_within : Addr
  are_numbers : Addr
  Task___init__ : Addr
  _law_told : Addr
  _law_is_int : Addr
  _law_are_ints : Addr
  _law_are_numbers : Addr
  _law_due : Addr
  Task___eq__ : Addr
  _law_is_right : Addr
  _law_deep : Addr
  _law_bent : Addr
  _law_bent_rows : Addr
  _law_odd : Addr
  law : Addr
  Task : Addr
  TurnError : Addr
  BadTask : Addr
  BadTask_init : Addr
  BadTask_cc : Addr
structure Fd where
  _law_pool : FuncData
  _law_draw : FuncData
  _law_number : FuncData
  is_integer : FuncData
  are_integers : FuncData
  are_within : FuncData
  are_numbers : FuncData
  Task___init__ : FuncData
  _law_told : FuncData
  _law_is_int : FuncData
  _law_are_ints : FuncData
  _law_are_numbers : FuncData
  _law_due : FuncData
  Task___eq__ : FuncData
  _law_is_right : FuncData
  _law_deep : FuncData
  _law_bent : FuncData
  _law_bent_rows : FuncData
  _law_odd : FuncData
  law : FuncData
def isC (A : Ad) : Addr → Bool := fun C => decide (C = A.Task)
def xsub_TurnError (A : Ad) : Addr → Option Bool := fun D => if D = A.BadTask then some true else none
def xtab (A : Ad) : ExT := [(A.BadTask, .inl A.BadTask, true), (A.BadTask, .inr "ValueError", true)]




















noncomputable def d__law_pool_b1 (A : Ad) : DS :=
  asgS 1 (bin2 (cbD (un1 intD) (consL (bin2 (bin2 (bin2 (varD 1) (cD (.int 48271)) mulS) (bin2 (cbD (un1 intD) (consL (varD 2) (nilL))) (cD (.int 2147483629)) (opD modD)) addS) (cD (.int 11)) addS) (nilL))) (cD (.int 2147483647)) (opD modD))
noncomputable def d__law_pool_c2e (A : Ad) : DE S :=
  cbD (un1 absD) (consL (varD 2) (nilL))
noncomputable def d__law_pool_c2t (A : Ad) : DE Bool :=
  asB (bin2 (cbD (un1 absD) (consL (varD 2) (nilL))) (bin2 (cD (.int 10)) (cD (.int 18)) (opD powD)) (opD geD))
noncomputable def d__law_pool_c2 (A : Ad) : DE S :=
  compC (seqI (slD (varD 0) (noO) (someO (cD (.int 63))))) [2] (nameG 2) (d__law_pool_c2t A) (d__law_pool_c2e A)
noncomputable def d__law_pool (A : Ad) : DS :=
  seqS (asgS 1 (bin2 (bin2 (bin2 (cbD (un1 intD) (consL (cbD (un1 sumD) (consL (slD (varD 0) (noO) (someO (cD (.int 1)))) (nilL))) (nilL))) (cD (.int 1000003)) (opD modD)) (cbD (un1 lenD) (consL (varD 0) (nilL))) addS) (cD (.int 1)) addS)) (seqS (forS (seqI (slD (varD 0) (noO) (someO (cD (.int 63))))) (nameG 2) (d__law_pool_b1 A)) (retS (tapD (consL (varD 1) (consL (cD (.int 0)) (consL (d__law_pool_c2 A) (nilL)))))))
noncomputable def phi__law_pool (A : Ad) : DF := defC 3 (d__law_pool A)
noncomputable def d__law_draw (A : Ad) : DS :=
  seqS (putSt (varD 0) (cD (.int 1)) (bin2 (bin2 (varD 0) (cD (.int 1)) ixS) (cD (.int 1)) addS)) (seqS (asgS 2 (bin2 (varD 0) (cD (.int 2)) ixS)) (seqS (ifS (asB (bin2 (cbD (un1 lenD) (consL (varD 2) (nilL))) (cD (.int 0)) (opD gtD))) (seqS (asgS 4 (bin2 (cbD (un1 intD) (consL (bin2 (varD 2) (cD (.int 0)) ixS) (nilL))) (varD 1) (opD modD))) (seqS (putSt (varD 2) (cD (.int 0)) (bin2 (cbD (un1 intD) (consL (bin2 (varD 2) (cD (.int 0)) ixS) (nilL))) (varD 1) (opD divD))) (seqS (ifS (asB (bin2 (bin2 (varD 2) (cD (.int 0)) ixS) (cD (.int 0)) (opD eqD))) (exprS (mthL popIS (varD 2) (consL (cD (.int 0)) (nilL)))) (nextS)) (retS (varD 4))))) (nextS)) (seqS (asgS 3 (bin2 (cbD (un1 intD) (consL (bin2 (bin2 (bin2 (varD 0) (cD (.int 0)) ixS) (bin2 (cD (.int 7919)) (bin2 (varD 0) (cD (.int 1)) ixS) mulS) addS) (cD (.int 48271)) mulS) (nilL))) (cD (.int 2147483647)) (opD modD))) (seqS (asgS 3 (bin2 (cbD (un1 intD) (consL (bin2 (varD 3) (bin2 (bin2 (varD 3) (cD (.int 1009)) (opD divD)) (cD (.int 69621)) addS) mulS) (nilL))) (cD (.int 2147483647)) (opD modD))) (seqS (asgS 3 (bin2 (cbD (un1 intD) (consL (bin2 (varD 3) (bin2 (bin2 (varD 3) (cD (.int 2003)) (opD divD)) (cD (.int 40692)) addS) mulS) (nilL))) (cD (.int 2147483399)) (opD modD))) (retS (bin2 (cbD (un1 intD) (consL (bin2 (varD 3) (cD (.int 16)) (opD divD)) (nilL))) (varD 1) (opD modD))))))))
noncomputable def phi__law_draw (A : Ad) : DF := defD 5 (d__law_draw A)
noncomputable def d__law_number (A : Ad) : DS :=
  seqS (asgS 1 (bin2 (cD (.int 10)) (cD (.int 40)) (opD powD))) (retS (bin2 (lstD (consL (cD (.int 0)) (consL (cD (.int 1)) (consL (un1D negS (cD (.int 1))) (consL (cD (.int 7)) (consL (varD 1) (consL (un1D negS (varD 1)) (consL (callD (phi__law_draw A) (consL (varD 0) (consL (bin2 (varD 1) (cD (.int 1)) addS) (nilL)))) (consL (un1D negS (callD (phi__law_draw A) (consL (varD 0) (consL (bin2 (varD 1) (cD (.int 1)) addS) (nilL))))) (nilL)))))))))) (callD (phi__law_draw A) (consL (varD 0) (consL (cD (.int 8)) (nilL)))) ixS))
noncomputable def phi__law_number (A : Ad) : DF := defD 2 (d__law_number A)
noncomputable def d_is_integer (A : Ad) : DS :=
  retS (andV (cbD (isiS (isC A)) (consL (varD 0) (consL (cD (.typ "int")) (nilL)))) (notV (cbD (isiS (isC A)) (consL (varD 0) (consL (cD (.typ "bool")) (nilL))))))
noncomputable def phi_is_integer (A : Ad) : DF := defD 1 (d_is_integer A)
noncomputable def d_are_integers_c1e (A : Ad) : DE S :=
  callD (phi_is_integer A) (consL (varD 2) (nilL))
noncomputable def d_are_integers_c1 (A : Ad) : DE S :=
  compD (seqI (varD 0)) [2] (nameG 2) (yesB) (d_are_integers_c1e A)
noncomputable def d_are_integers (A : Ad) : DS :=
  retS (andV (cbD (isiS (isC A)) (consL (varD 0) (consL (cD (.typ "tuple")) (nilL)))) (andV (bin2 (cbD (un1 lenD) (consL (varD 0) (nilL))) (varD 1) (opD eqD)) (cbD (un1 allF) (consL (d_are_integers_c1 A) (nilL)))))
noncomputable def phi_are_integers (A : Ad) : DF := defD 3 (d_are_integers A)
noncomputable def d_are_within_c1e (A : Ad) : DE S :=
  chD (opD leD) (opD leD) (varD 2) (varD 4) (varD 3)
noncomputable def d_are_within_c1 (A : Ad) : DE S :=
  compD (seqI (varD 0)) [4] (nameG 4) (yesB) (d_are_within_c1e A)
noncomputable def d_are_within (A : Ad) : DS :=
  retS (andV (callD (phi_are_integers A) (consL (varD 0) (consL (varD 1) (nilL)))) (cbD (un1 allF) (consL (d_are_within_c1 A) (nilL))))
noncomputable def phi_are_within (A : Ad) : DF := defD 5 (d_are_within A)
noncomputable def d_are_numbers (A : Ad) : DS :=
  retS (callD (phi_are_within A) (consL (varD 0) (consL (varD 1) (consL (un1D negS (cD (.int 10000000000000000000000000000000000000000))) (consL (cD (.int 10000000000000000000000000000000000000000)) (nilL))))))
noncomputable def phi_are_numbers (A : Ad) : DF := defD 2 (d_are_numbers A)
noncomputable def d_Task___init___c1e (A : Ad) : DE S :=
  callD (phi_are_numbers A) (consL (varD 4) (consL (cbD (un1 lenD) (consL (varD 3) (nilL))) (nilL)))
noncomputable def d_Task___init___c1 (A : Ad) : DE S :=
  compD (seqI (varD 1)) [4] (nameG 4) (yesB) (d_Task___init___c1e A)
noncomputable def d_Task___init__ (A : Ad) : DS :=
  seqS (ifS (orB (notB (asB (cbD (isiS (isC A)) (consL (varD 3) (consL (cD (.typ "tuple")) (nilL)))))) (orB (notB (asB (chD (opD leD) (opD leD) (cD (.int 1)) (cbD (un1 lenD) (consL (varD 3) (nilL))) (cD (.int 100))))) (notB (asB (callD (phi_are_numbers A) (consL (varD 3) (consL (cbD (un1 lenD) (consL (varD 3) (nilL))) (nilL)))))))) (raise1 A.BadTask "part" (cD (.str "worths"))) (nextS)) (seqS (ifS (orB (notB (asB (cbD (isiS (isC A)) (consL (varD 1) (consL (cD (.typ "tuple")) (nilL)))))) (asB (bin2 (cbD (un1 lenD) (consL (varD 1) (nilL))) (cD (.int 40)) (opD gtD)))) (raise1 A.BadTask "part" (cD (.str "rows"))) (nextS)) (seqS (ifS (notB (asB (cbD (un1 allF) (consL (d_Task___init___c1 A) (nilL))))) (raise1 A.BadTask "part" (cD (.str "rows"))) (nextS)) (seqS (ifS (notB (asB (callD (phi_are_numbers A) (consL (varD 2) (consL (cbD (un1 lenD) (consL (varD 1) (nilL))) (nilL)))))) (raise1 A.BadTask "part" (cD (.str "amounts"))) (nextS)) (seqS (sfldS A.Task "rows" (varD 0) (varD 1)) (seqS (sfldS A.Task "amounts" (varD 0) (varD 2)) (sfldS A.Task "worths" (varD 0) (varD 3)))))))
noncomputable def phi_Task___init__ (A : Ad) : DF := defD 5 (d_Task___init__ A)
noncomputable def d__law_told (A : Ad) : DS :=
  seqS (asgS 3 (tupD (consL (cD (.str "let")) (consL (cD .non) (nilL))))) (seqS (tryS (asgS 3 (tupD (consL (cD (.str "let")) (consL (frzD (makeC A.Task (phi_Task___init__ A) (consL (varD 0) (consL (varD 1) (consL (varD 2) (nilL)))))) (nilL))))) ((xsub_TurnError A, (some 4), fun a C d => seqS (asgS 3 (tupD (consL (cD (.str "other")) (consL (cD .non) (nilL))))) (ifS (andB (asB (cbD (isxS a C d (xtab A)) (consL (varD 4) (consL (cD (.adr A.BadTask)) (nilL))))) (asB (cbD (isxS a C d (xtab A)) (consL (varD 4) (consL (cD (.typ "ValueError")) (nilL)))))) (asgS 3 (tupD (consL ((fun ρ g => ((varD 4) ρ g).bind (xfS a C d A.BadTask "part"))) (consL (cD .non) (nilL))))) (nextS))) :: ([]))) (retS (varD 3)))
noncomputable def phi__law_told (A : Ad) : DF := defD 5 (d__law_told A)
noncomputable def d__law_is_int (A : Ad) : DS :=
  retS (andV (cbD (isiS (isC A)) (consL (varD 0) (consL (cD (.typ "int")) (nilL)))) (notV (cbD (isiS (isC A)) (consL (varD 0) (consL (cD (.typ "bool")) (nilL))))))
noncomputable def phi__law_is_int (A : Ad) : DF := defD 1 (d__law_is_int A)
noncomputable def d__law_are_ints_c1e (A : Ad) : DE S :=
  callD (phi__law_is_int A) (consL (varD 2) (nilL))
noncomputable def d__law_are_ints_c1 (A : Ad) : DE S :=
  compD (seqI (varD 0)) [2] (nameG 2) (yesB) (d__law_are_ints_c1e A)
noncomputable def d__law_are_ints (A : Ad) : DS :=
  retS (andV (cbD (isiS (isC A)) (consL (varD 0) (consL (cD (.typ "tuple")) (nilL)))) (andV (bin2 (cbD (un1 lenD) (consL (varD 0) (nilL))) (varD 1) (opD eqD)) (cbD (un1 allF) (consL (d__law_are_ints_c1 A) (nilL)))))
noncomputable def phi__law_are_ints (A : Ad) : DF := defD 3 (d__law_are_ints A)
noncomputable def d__law_are_numbers_c1e (A : Ad) : DE S :=
  andV (bin2 (un1D negS (bin2 (cD (.int 10)) (cD (.int 40)) (opD powD))) (varD 2) (opD leD)) (bin2 (varD 2) (bin2 (cD (.int 10)) (cD (.int 40)) (opD powD)) (opD leD))
noncomputable def d__law_are_numbers_c1 (A : Ad) : DE S :=
  compD (seqI (varD 0)) [2] (nameG 2) (yesB) (d__law_are_numbers_c1e A)
noncomputable def d__law_are_numbers (A : Ad) : DS :=
  seqS (ifS (notB (asB (callD (phi__law_are_ints A) (consL (varD 0) (consL (varD 1) (nilL)))))) (retS (cD (.bl false))) (nextS)) (retS (cbD (un1 allF) (consL (d__law_are_numbers_c1 A) (nilL))))
noncomputable def phi__law_are_numbers (A : Ad) : DF := defD 3 (d__law_are_numbers A)
noncomputable def d__law_due_c1e (A : Ad) : DE S :=
  callD (phi__law_are_numbers A) (consL (varD 3) (consL (cbD (un1 lenD) (consL (varD 2) (nilL))) (nilL)))
noncomputable def d__law_due_c1 (A : Ad) : DE S :=
  compD (seqI (varD 0)) [3] (nameG 3) (yesB) (d__law_due_c1e A)
noncomputable def d__law_due (A : Ad) : DS :=
  seqS (ifS (orB (notB (asB (cbD (isiS (isC A)) (consL (varD 2) (consL (cD (.typ "tuple")) (nilL)))))) (orB (notB (asB (chD (opD leD) (opD leD) (cD (.int 1)) (cbD (un1 lenD) (consL (varD 2) (nilL))) (cD (.int 100))))) (notB (asB (callD (phi__law_are_numbers A) (consL (varD 2) (consL (cbD (un1 lenD) (consL (varD 2) (nilL))) (nilL)))))))) (retS (cD (.str "worths"))) (nextS)) (seqS (ifS (orB (notB (asB (cbD (isiS (isC A)) (consL (varD 0) (consL (cD (.typ "tuple")) (nilL)))))) (orB (asB (bin2 (cbD (un1 lenD) (consL (varD 0) (nilL))) (cD (.int 40)) (opD gtD))) (notB (asB (cbD (un1 allF) (consL (d__law_due_c1 A) (nilL))))))) (retS (cD (.str "rows"))) (nextS)) (seqS (ifS (notB (asB (callD (phi__law_are_numbers A) (consL (varD 1) (consL (cbD (un1 lenD) (consL (varD 0) (nilL))) (nilL)))))) (retS (cD (.str "amounts"))) (nextS)) (retS (cD (.str "let")))))
noncomputable def phi__law_due (A : Ad) : DF := defD 4 (d__law_due A)
noncomputable def d_Task___eq__ (A : Ad) : DS :=
  seqS (ifS (notB (asB (cbD (isiS (isC A)) (consL (varD 1) (consL (cD (.adr A.Task)) (nilL)))))) (retS (cD (.bl false))) (nextS)) (retS (bin2 (tupD (consL (un1D (fldS A.Task "rows") (varD 0)) (consL (un1D (fldS A.Task "amounts") (varD 0)) (consL (un1D (fldS A.Task "worths") (varD 0)) (nilL))))) (tupD (consL (un1D (fldS A.Task "rows") (varD 1)) (consL (un1D (fldS A.Task "amounts") (varD 1)) (consL (un1D (fldS A.Task "worths") (varD 1)) (nilL))))) (opD eqD)))
noncomputable def phi_Task___eq__ (A : Ad) : DF := defD 2 (d_Task___eq__ A)
noncomputable def d__law_is_right (A : Ad) : DS :=
  seqS (setS (tupG 2 (consG (nameG 4) (consG (nameG 5) (nilG)))) (callD (phi__law_told A) (consL (varD 0) (consL (varD 1) (consL (varD 2) (nilL)))))) (seqS (ifS (asB (bin2 (varD 4) (callD (phi__law_due A) (consL (varD 0) (consL (varD 1) (consL (varD 2) (nilL))))) (opD neD))) (retS (cD (.bl false))) (nextS)) (seqS (ifS (asB (bin2 (varD 4) (cD (.str "let")) (opD neD))) (retS (cD (.bl true))) (nextS)) (seqS (ifS (asB (bin2 (tupD (consL (un1D (fldS A.Task "rows") (varD 5)) (consL (un1D (fldS A.Task "amounts") (varD 5)) (consL (un1D (fldS A.Task "worths") (varD 5)) (nilL))))) (tupD (consL (varD 0) (consL (varD 1) (consL (varD 2) (nilL))))) (opD neD))) (retS (cD (.bl false))) (nextS)) (seqS (ifS (orB (notB (asB (bin2 (varD 5) (frzD (makeC A.Task (phi_Task___init__ A) (consL (varD 0) (consL (varD 1) (consL (varD 2) (nilL)))))) (eqX A.Task (phi_Task___eq__ A))))) (orB (asB (bin2 (varD 5) (tupD (consL (varD 0) (consL (varD 1) (consL (varD 2) (nilL))))) (eqX A.Task (phi_Task___eq__ A)))) (asB (bin2 (varD 5) (cD (.int 0)) (eqX A.Task (phi_Task___eq__ A)))))) (retS (cD (.bl false))) (nextS)) (seqS (asgS 3 (bin2 (tupD (consL (bin2 (bin2 (bin2 (varD 2) (cD (.int 0)) ixS) (cD (.int 1)) addS) (bin2 (cD (.int 2)) (cbD (un1 intD) (consL (bin2 (bin2 (varD 2) (cD (.int 0)) ixS) (cD (.int 0)) (opD gtD)) (nilL))) mulS) (opD subD)) (nilL))) (slD (varD 2) (someO (cD (.int 1))) (noO)) addS)) (retS (andV (notV (bin2 (varD 5) (frzD (makeC A.Task (phi_Task___init__ A) (consL (varD 0) (consL (varD 1) (consL (varD 3) (nilL)))))) (eqX A.Task (phi_Task___eq__ A)))) (notV (bin2 (varD 5) (frzD (makeC A.Task (phi_Task___init__ A) (consL (bin2 (varD 0) (tupD (consL (varD 2) (nilL))) addS) (consL (bin2 (varD 1) (tupD (consL (cD (.int 0)) (nilL))) addS) (consL (varD 2) (nilL)))))) (eqX A.Task (phi_Task___eq__ A)))))))))))
noncomputable def phi__law_is_right (A : Ad) : DF := defD 6 (d__law_is_right A)
noncomputable def d__law_deep_b1 (A : Ad) : DS :=
  asgS 0 (tupD (consL (varD 0) (nilL)))
noncomputable def d__law_deep (A : Ad) : DS :=
  seqS (asgS 0 (tupD (consL (cD (.int 0)) (nilL)))) (seqS (forS (range1 (consL (cD (.int 35)) (nilL))) (nameG 1) (d__law_deep_b1 A)) (retS (varD 0)))
noncomputable def phi__law_deep (A : Ad) : DF := defD 2 (d__law_deep A)
noncomputable def d__law_bent (A : Ad) : DS :=
  seqS (asgS 2 (callD (phi__law_draw A) (consL (varD 0) (consL (bin2 (cbD (un1 lenD) (consL (varD 1) (nilL))) (cD (.int 1)) addS) (nilL))))) (seqS (asgS 3 (bin2 (lstD (consL (cD (.bl true)) (consL (cD (.bl false)) (consL (cD .non) (consL (cD (.str "1")) (consL (bin2 (bin2 (cD (.int 10)) (cD (.int 40)) (opD powD)) (cD (.int 1)) addS) (consL (bin2 (un1D negS (bin2 (cD (.int 10)) (cD (.int 40)) (opD powD))) (cD (.int 1)) (opD subD)) (consL (tupD (consL (cD (.int 1)) (nilL))) (consL (cD (.int 0)) (consL (lstD (consL (cD (.int 1)) (nilL))) (consL (callD (phi__law_deep A) nilL) (nilL)))))))))))) (callD (phi__law_draw A) (consL (varD 0) (consL (cD (.int 10)) (nilL)))) ixS)) (seqS (asgS 4 (callD (phi__law_draw A) (consL (varD 0) (consL (cD (.int 5)) (nilL))))) (seqS (ifS (asB (bin2 (varD 4) (cD (.int 0)) (opD eqD))) (retS (bin2 (bin2 (slD (varD 1) (noO) (someO (varD 2))) (tupD (consL (varD 3) (nilL))) addS) (slD (varD 1) (someO (varD 2)) (noO)) addS)) (nextS)) (seqS (ifS (asB (bin2 (varD 4) (cD (.int 1)) (opD eqD))) (retS (bin2 (slD (varD 1) (noO) (someO (varD 2))) (slD (varD 1) (someO (bin2 (varD 2) (cD (.int 1)) addS)) (noO)) addS)) (nextS)) (seqS (ifS (asB (bin2 (varD 4) (cD (.int 2)) (opD eqD))) (retS (cbD lstC (consL (varD 1) (nilL)))) (nextS)) (retS (bin2 (bin2 (slD (varD 1) (noO) (someO (varD 2))) (tupD (consL (varD 3) (nilL))) addS) (slD (varD 1) (someO (bin2 (varD 2) (cD (.int 1)) addS)) (noO)) addS)))))))
noncomputable def phi__law_bent (A : Ad) : DF := defD 5 (d__law_bent A)
noncomputable def d__law_bent_rows (A : Ad) : DS :=
  seqS (ifS (andB (asB (bin2 (cbD (un1 lenD) (consL (varD 1) (nilL))) (cD (.int 0)) (opD gtD))) (asB (bin2 (callD (phi__law_draw A) (consL (varD 0) (consL (cD (.int 2)) (nilL)))) (cD (.int 0)) (opD eqD)))) (seqS (asgS 2 (callD (phi__law_draw A) (consL (varD 0) (consL (cbD (un1 lenD) (consL (varD 1) (nilL))) (nilL))))) (retS (bin2 (bin2 (slD (varD 1) (noO) (someO (varD 2))) (tupD (consL (callD (phi__law_bent A) (consL (varD 0) (consL (bin2 (varD 1) (varD 2) ixS) (nilL)))) (nilL))) addS) (slD (varD 1) (someO (bin2 (varD 2) (cD (.int 1)) addS)) (noO)) addS))) (nextS)) (retS (callD (phi__law_bent A) (consL (varD 0) (consL (varD 1) (nilL)))))
noncomputable def phi__law_bent_rows (A : Ad) : DF := defD 3 (d__law_bent_rows A)
noncomputable def d__law_odd (A : Ad) : DS :=
  seqS (asgS 1 (lstD (consL (cD .non) (consL (cD (.bl true)) (consL (cD (.bl false)) (consL (cD (.int 0)) (consL (cD (.str "")) (consL (cD (.str "rows")) (consL (lstD (nilL)) (consL (lstD (consL (cD (.int 1)) (nilL))) (consL (cD (.dct [])) (consL (tupD (nilL)) (consL (tupD (consL (cD (.int 0)) (nilL))) (consL (tupD (consL (tupD (nilL)) (nilL))) (consL (tupD (consL (tupD (consL (cD (.int 0)) (nilL))) (nilL))) (consL (tupD (consL (cD (.bl true)) (nilL))) (consL (tupD (consL (cD (.str "0")) (nilL))) (consL (tupD (consL (cD .non) (nilL))) (consL (cD (.dct [(Sum.inl 0, .int 1)])) (nilL)))))))))))))))))))) (seqS (asgS 1 (bin2 (varD 1) (lstD (consL (tupD (consL (bin2 (bin2 (cD (.int 10)) (cD (.int 40)) (opD powD)) (cD (.int 1)) addS) (nilL))) (consL (tupD (consL (bin2 (un1D negS (bin2 (cD (.int 10)) (cD (.int 40)) (opD powD))) (cD (.int 1)) (opD subD)) (nilL))) (consL (callD (phi__law_deep A) nilL) (consL (frzD (makeC A.Task (phi_Task___init__ A) (consL (tupD (nilL)) (consL (tupD (nilL)) (consL (tupD (consL (cD (.int 1)) (nilL))) (nilL)))))) (consL (tupD (consL (frzD (makeC A.Task (phi_Task___init__ A) (consL (tupD (nilL)) (consL (tupD (nilL)) (consL (tupD (consL (cD (.int 1)) (nilL))) (nilL)))))) (nilL))) (nilL))))))) addS)) (retS (bin2 (varD 1) (callD (phi__law_draw A) (consL (varD 0) (consL (cbD (un1 lenD) (consL (varD 1) (nilL))) (nilL)))) ixS)))
noncomputable def phi__law_odd (A : Ad) : DF := defD 2 (d__law_odd A)
noncomputable def d_law_c1e (A : Ad) : DE S :=
  callD (phi__law_number A) (consL (varD 1) (nilL))
noncomputable def d_law_c1 (A : Ad) : DE S :=
  compD (range1 (consL (varD 4) (nilL))) [12] (nameG 12) (yesB) (d_law_c1e A)
noncomputable def d_law_c3e (A : Ad) : DE S :=
  cbD (tupC) (consL (d_law_c1 A) (nilL))
noncomputable def d_law_c3 (A : Ad) : DE S :=
  compD (range1 (consL (varD 5) (nilL))) [13] (nameG 13) (yesB) (d_law_c3e A)
noncomputable def d_law_c5e (A : Ad) : DE S :=
  callD (phi__law_number A) (consL (varD 1) (nilL))
noncomputable def d_law_c5 (A : Ad) : DE S :=
  compD (seqI (varD 6)) [3] (nameG 3) (yesB) (d_law_c5e A)
noncomputable def d_law_c7e (A : Ad) : DE S :=
  callD (phi__law_number A) (consL (varD 1) (nilL))
noncomputable def d_law_c7 (A : Ad) : DE S :=
  compD (range1 (consL (varD 4) (nilL))) [12] (nameG 12) (yesB) (d_law_c7e A)
noncomputable def d_law_c9e (A : Ad) : DE S :=
  callD (phi__law_draw A) (consL (varD 1) (consL (cD (.int 3)) (nilL)))
noncomputable def d_law_c9 (A : Ad) : DE S :=
  compD (range1 (consL (cD (.int 3)) (nilL))) [12] (nameG 12) (yesB) (d_law_c9e A)
noncomputable def d_law_b11 (A : Ad) : DS :=
  seqS (asgS 4 (bin2 (cD (.int 1)) (callD (phi__law_draw A) (consL (varD 1) (consL (cD (.int 6)) (nilL)))) addS)) (seqS (asgS 5 (callD (phi__law_draw A) (consL (varD 1) (consL (cD (.int 6)) (nilL))))) (seqS (ifS (asB (bin2 (callD (phi__law_draw A) (consL (varD 1) (consL (cD (.int 24)) (nilL)))) (cD (.int 0)) (opD eqD))) (seqS (asgS 4 (cD (.int 100))) (asgS 5 (bin2 (cD (.int 39)) (callD (phi__law_draw A) (consL (varD 1) (consL (cD (.int 2)) (nilL)))) addS))) (nextS)) (seqS (asgS 6 (cbD (tupC) (consL (d_law_c3 A) (nilL)))) (seqS (asgS 7 (cbD (tupC) (consL (d_law_c5 A) (nilL)))) (seqS (asgS 8 (cbD (tupC) (consL (d_law_c7 A) (nilL)))) (seqS (ifS (andB (asB (bin2 (varD 5) (cD (.int 40)) (opD ltD))) (notB (asB (callD (phi__law_is_right A) (consL (varD 6) (consL (varD 7) (consL (varD 8) (nilL)))))))) (retS (cD (.bl false))) (nextS)) (seqS (asgS 9 (d_law_c9 A)) (seqS (asgS 10 (celD (consL (varD 6) (consL (varD 7) (consL (varD 8) (nilL)))))) (seqS (ifS (asB (bin2 (bin2 (varD 9) (cD (.int 0)) ixS) (cD (.int 0)) (opD eqD))) (putSt (varD 10) (cD (.int 0)) (callD (phi__law_bent_rows A) (consL (varD 1) (consL (varD 6) (nilL))))) (nextS)) (seqS (ifS (asB (bin2 (bin2 (varD 9) (cD (.int 1)) ixS) (cD (.int 0)) (opD eqD))) (putSt (varD 10) (cD (.int 1)) (callD (phi__law_bent A) (consL (varD 1) (consL (varD 7) (nilL))))) (nextS)) (seqS (ifS (asB (bin2 (bin2 (varD 9) (cD (.int 2)) ixS) (cD (.int 0)) (opD eqD))) (putSt (varD 10) (cD (.int 2)) (callD (phi__law_bent A) (consL (varD 1) (consL (varD 8) (nilL))))) (nextS)) (seqS (ifS (asB (bin2 (callD (phi__law_draw A) (consL (varD 1) (consL (cD (.int 4)) (nilL)))) (cD (.int 0)) (opD eqD))) (putSt (varD 10) (callD (phi__law_draw A) (consL (varD 1) (consL (cD (.int 3)) (nilL)))) (callD (phi__law_odd A) (consL (varD 1) (nilL)))) (nextS)) (seqS (asgS 11 (callD (phi__law_due A) (consL (bin2 (varD 10) (cD (.int 0)) ixS) (consL (bin2 (varD 10) (cD (.int 1)) ixS) (consL (bin2 (varD 10) (cD (.int 2)) ixS) (nilL)))))) (seqS (ifS (andB (asB (bin2 (varD 11) (cD (.str "let")) (opD neD))) (asB (bin2 (bin2 (callD (phi__law_told A) (consL (bin2 (varD 10) (cD (.int 0)) ixS) (consL (bin2 (varD 10) (cD (.int 1)) ixS) (consL (bin2 (varD 10) (cD (.int 2)) ixS) (nilL))))) (cD (.int 0)) ixS) (varD 11) (opD neD)))) (retS (cD (.bl false))) (nextS)) (ifS (andB (asB (bin2 (varD 11) (cD (.str "let")) (opD eqD))) (andB (asB (bin2 (varD 5) (cD (.int 39)) (opD ltD))) (notB (asB (callD (phi__law_is_right A) (consL (bin2 (varD 10) (cD (.int 0)) ixS) (consL (bin2 (varD 10) (cD (.int 1)) ixS) (consL (bin2 (varD 10) (cD (.int 2)) ixS) (nilL))))))))) (retS (cD (.bl false))) (nextS))))))))))))))))
noncomputable def d_law (A : Ad) : DS :=
  seqS (asgS 1 (callD (phi__law_pool A) (consL (varD 0) (nilL)))) (seqS (forS (range1 (consL (cD (.int 3)) (nilL))) (nameG 2) (d_law_b11 A)) (seqS (asgS 3 (bin2 (tupD (consL (cD (.int 0)) (nilL))) (cD (.int 100)) mulS)) (seqS (ifS (orB (asB (bin2 (bin2 (callD (phi__law_told A) (consL (tupD (nilL)) (consL (tupD (nilL)) (consL (bin2 (varD 3) (tupD (consL (cD (.int 0)) (nilL))) addS) (nilL))))) (cD (.int 0)) ixS) (cD (.str "worths")) (opD neD))) (asB (bin2 (bin2 (callD (phi__law_told A) (consL (bin2 (tupD (consL (varD 3) (nilL))) (cD (.int 41)) mulS) (consL (bin2 (tupD (consL (cD (.int 0)) (nilL))) (cD (.int 41)) mulS) (consL (varD 3) (nilL))))) (cD (.int 0)) ixS) (cD (.str "rows")) (opD neD)))) (retS (cD (.bl false))) (nextS)) (retS (bin2 (bin2 (callD (phi__law_told A) (consL (bin2 (tupD (consL (varD 3) (nilL))) (cD (.int 40)) mulS) (consL (bin2 (tupD (consL (cD (.int 0)) (nilL))) (cD (.int 40)) mulS) (consL (varD 3) (nilL))))) (cD (.int 0)) ixS) (cD (.str "let")) (opD eqD))))))
noncomputable def phi_law (A : Ad) : DF := defD 14 (d_law A)
structure Txt (K : PySem.W.Frag) (mg : Str → Option Value) (P : Program) (A : Ad) (B : Fd) : Prop where
  F__law_pool : Fun K "_law_pool" "_law_pool" s__law_pool A._law_pool B._law_pool
  b__law_pool : Binds K B._law_pool ["_law_script"] []
  k__law_pool : PySem.W.keepIn K (.ref A._law_pool) = true
  m__law_pool : mg "_law_pool" = some (.ref A._law_pool)
  F__law_draw : Fun K "_law_draw" "_law_draw" s__law_draw A._law_draw B._law_draw
  b__law_draw : Binds K B._law_draw ["_law_pool_here", "_law_many"] []
  k__law_draw : PySem.W.keepIn K (.ref A._law_draw) = true
  m__law_draw : mg "_law_draw" = some (.ref A._law_draw)
  F__law_number : Fun K "_law_number" "_law_number" s__law_number A._law_number B._law_number
  b__law_number : Binds K B._law_number ["_law_pool_here"] []
  k__law_number : PySem.W.keepIn K (.ref A._law_number) = true
  m__law_number : mg "_law_number" = some (.ref A._law_number)
  F_is_integer : Fun K "is_integer" "is_integer" s_is_integer A.is_integer B.is_integer
  b_is_integer : Binds K B.is_integer ["thing"] []
  k_is_integer : PySem.W.keepIn K (.ref A.is_integer) = true
  m_is_integer : mg "is_integer" = some (.ref A.is_integer)
  F_are_integers : Fun K "are_integers" "are_integers" s_are_integers A.are_integers B.are_integers
  b_are_integers : Binds K B.are_integers ["thing", "many"] []
  k_are_integers : PySem.W.keepIn K (.ref A.are_integers) = true
  m_are_integers : mg "are_integers" = some (.ref A.are_integers)
  F_are_within : Fun K "are_within" "are_within" s_are_within A.are_within B.are_within
  b_are_within : Binds K B.are_within ["thing", "many", "least", "most"] []
  k_are_within : PySem.W.keepIn K (.ref A.are_within) = true
  m_are_within : mg "are_within" = some (.ref A.are_within)
  F_are_numbers : Fun K "are_numbers" "are_numbers" s_are_numbers A.are_numbers B.are_numbers
  b_are_numbers : Binds K B.are_numbers ["thing", "many"] []
  k_are_numbers : PySem.W.keepIn K (.ref A.are_numbers) = true
  m_are_numbers : mg "are_numbers" = some (.ref A.are_numbers)
  F_Task___init__ : Fun K "__init__" "Task.__init__" s_Task___init__ A.Task___init__ B.Task___init__
  b_Task___init__ : Binds K B.Task___init__ ["self", "rows", "amounts", "worths"] []
  k_Task___init__ : PySem.W.keepIn K (.ref A.Task___init__) = true
  fn_Task___init__ : PySem.W.isFn K (.ref A.Task___init__) = true
  F__law_told : Fun K "_law_told" "_law_told" s__law_told A._law_told B._law_told
  b__law_told : Binds K B._law_told ["_law_rows", "_law_amounts", "_law_worths"] []
  k__law_told : PySem.W.keepIn K (.ref A._law_told) = true
  m__law_told : mg "_law_told" = some (.ref A._law_told)
  F__law_is_int : Fun K "_law_is_int" "_law_is_int" s__law_is_int A._law_is_int B._law_is_int
  b__law_is_int : Binds K B._law_is_int ["_law_thing"] []
  k__law_is_int : PySem.W.keepIn K (.ref A._law_is_int) = true
  m__law_is_int : mg "_law_is_int" = some (.ref A._law_is_int)
  F__law_are_ints : Fun K "_law_are_ints" "_law_are_ints" s__law_are_ints A._law_are_ints B._law_are_ints
  b__law_are_ints : Binds K B._law_are_ints ["_law_things", "_law_many"] []
  k__law_are_ints : PySem.W.keepIn K (.ref A._law_are_ints) = true
  m__law_are_ints : mg "_law_are_ints" = some (.ref A._law_are_ints)
  F__law_are_numbers : Fun K "_law_are_numbers" "_law_are_numbers" s__law_are_numbers A._law_are_numbers B._law_are_numbers
  b__law_are_numbers : Binds K B._law_are_numbers ["_law_thing", "_law_many"] []
  k__law_are_numbers : PySem.W.keepIn K (.ref A._law_are_numbers) = true
  m__law_are_numbers : mg "_law_are_numbers" = some (.ref A._law_are_numbers)
  F__law_due : Fun K "_law_due" "_law_due" s__law_due A._law_due B._law_due
  b__law_due : Binds K B._law_due ["_law_rows", "_law_amounts", "_law_worths"] []
  k__law_due : PySem.W.keepIn K (.ref A._law_due) = true
  m__law_due : mg "_law_due" = some (.ref A._law_due)
  F_Task___eq__ : Fun K "__eq__" "Task.__eq__" s_Task___eq__ A.Task___eq__ B.Task___eq__
  b_Task___eq__ : Binds K B.Task___eq__ ["self", "other"] []
  k_Task___eq__ : PySem.W.keepIn K (.ref A.Task___eq__) = true
  fn_Task___eq__ : PySem.W.isFn K (.ref A.Task___eq__) = true
  F__law_is_right : Fun K "_law_is_right" "_law_is_right" s__law_is_right A._law_is_right B._law_is_right
  b__law_is_right : Binds K B._law_is_right ["_law_rows", "_law_amounts", "_law_worths"] []
  k__law_is_right : PySem.W.keepIn K (.ref A._law_is_right) = true
  m__law_is_right : mg "_law_is_right" = some (.ref A._law_is_right)
  F__law_deep : Fun K "_law_deep" "_law_deep" s__law_deep A._law_deep B._law_deep
  b__law_deep : Binds K B._law_deep [] []
  k__law_deep : PySem.W.keepIn K (.ref A._law_deep) = true
  m__law_deep : mg "_law_deep" = some (.ref A._law_deep)
  F__law_bent : Fun K "_law_bent" "_law_bent" s__law_bent A._law_bent B._law_bent
  b__law_bent : Binds K B._law_bent ["_law_pool_here", "_law_row"] []
  k__law_bent : PySem.W.keepIn K (.ref A._law_bent) = true
  m__law_bent : mg "_law_bent" = some (.ref A._law_bent)
  F__law_bent_rows : Fun K "_law_bent_rows" "_law_bent_rows" s__law_bent_rows A._law_bent_rows B._law_bent_rows
  b__law_bent_rows : Binds K B._law_bent_rows ["_law_pool_here", "_law_rows"] []
  k__law_bent_rows : PySem.W.keepIn K (.ref A._law_bent_rows) = true
  m__law_bent_rows : mg "_law_bent_rows" = some (.ref A._law_bent_rows)
  F__law_odd : Fun K "_law_odd" "_law_odd" s__law_odd A._law_odd B._law_odd
  b__law_odd : Binds K B._law_odd ["_law_pool_here"] []
  k__law_odd : PySem.W.keepIn K (.ref A._law_odd) = true
  m__law_odd : mg "_law_odd" = some (.ref A._law_odd)
  F_law : Fun K "law" "law" s_law A.law B.law
  b_law : Binds K B.law ["_law_script"] []
  k_law : PySem.W.keepIn K (.ref A.law) = true
  m_law : mg "law" = some (.ref A.law)
  m_Task : mg "Task" = some (.ref A.Task)
  kc_Task : KC K A.Task
  mk_Task : Mk K A.Task A.Task___init__
  e_Task : PySem.W.findIn K (.ref A.Task) "__eq__" = some (some (.ref A.Task___eq__))
  n_Task_amounts : NoAttr K A.Task "amounts"
  n_Task_rows : NoAttr K A.Task "rows"
  n_Task_worths : NoAttr K A.Task "worths"
  c_MOST_NUMBER : ∃ u, mg "MOST_NUMBER" = some u ∧ RelV (.int 10000000000000000000000000000000000000000) u
  c_MOST_PLACES : ∃ u, mg "MOST_PLACES" = some u ∧ RelV (.int 100) u
  c_MOST_ROWS : ∃ u, mg "MOST_ROWS" = some u ∧ RelV (.int 40) u
  z_ValueError : mg "ValueError" = none
  z_abs : mg "abs" = none
  z_all : mg "all" = none
  z_bool : mg "bool" = none
  z_int : mg "int" = none
  z_isinstance : mg "isinstance" = none
  z_len : mg "len" = none
  z_list : mg "list" = none
  z_range : mg "range" = none
  z_sum : mg "sum" = none
  z_tuple : mg "tuple" = none
  isC : ∀ C, isC A C = true → KC K C
  nx_BadTask_part : PySem.W.findIn K (.ref A.BadTask) "part" = some none
  xf_BadTask : XfC K A.BadTask
  xt_BadTask : PySem.DLX.XTxt K P A.BadTask A.BadTask_init A.BadTask_cc
  xn_BadTask : PySem.DLX.XFn K P A.BadTask_init A.BadTask_cc (PySem.DLX.iA1 "part" ⟨6, 17, 6, 21⟩ ⟨6, 23, 6, 27⟩) [PySem.DLX.iE "no task" 0 ⟨7, 8, 7, 13⟩ ⟨7, 8, 7, 15⟩ ⟨7, 8, 7, 24⟩ ⟨7, 25, 7, 34⟩ ⟨7, 8, 7, 35⟩ ⟨7, 8, 7, 35⟩, PySem.DLX.iF "part" ⟨8, 8, 8, 12⟩ ⟨8, 8, 8, 17⟩ ⟨8, 20, 8, 24⟩ ⟨8, 8, 8, 24⟩] (PySem.DLX.iS1 "part") ["part"] "no task" 0 ⟨7, 8, 7, 13⟩ ⟨7, 8, 7, 15⟩ ⟨7, 8, 7, 24⟩ ⟨7, 25, 7, 34⟩ ⟨7, 8, 7, 35⟩
  kk_BadTask : PySem.W.keepIn K (.ref A.BadTask) = true
  ex_BadTask : PySem.W.subIn K (.ref A.BadTask) (.type "BaseException") = some true
  ty_BadTask : PySem.W.typeIn K (.ref A.BadTask) = some (.type "type")
  m_TurnError : mg "TurnError" = some (.ref A.TurnError)
  m_BadTask : mg "BadTask" = some (.ref A.BadTask)
  xs_TurnError : ∀ D b, xsub_TurnError A D = some b → PySem.W.exmOne K (.ref D) (.ref A.TurnError) = some b
  xt : ExTOk K (xtab A)
section
variable {P : Program} {w : World} {K : PySem.W.Frag} {mg : Str → Option Value} {base : Heap} {A : Ad} {B : Fd}
theorem sc__law_pool : FnScope ["_law_script", "_law_seed", "_law_cell"] ["_law_script"] (defScope s__law_pool) := ⟨rfl, rfl, rfl, by decide +kernel, rfl, by decide +kernel, by decide +kernel⟩
set_option maxHeartbeats 0 in
theorem ok__law_pool (T : Txt K mg P A B) : FnD P w K mg base 1 A._law_pool B._law_pool ["_law_script"] (phi__law_pool A) := fn_c (body := d__law_pool A) (N := ["_law_script", "_law_seed", "_law_cell"]) (k := 0) T.F__law_pool sc__law_pool fun cdv Ar outer s H E hr => by
  have nd := sc__law_pool.nd
  exact (sds_cons (sd_asg (pg_name (i := 1) nd rfl (by first | exact Or.inl rfl | exact Or.inr rfl)) (ed_addX (ed_addX (ed_mod (ed_ct call_int1 cd_int (by rfl) T.z_int bt_int (ld_cons (ed_cb (cr_sum rfl) cd_sum (by rfl) T.z_sum bt_sum (ld_cons (ed_sl (ed_var (pv 0)) od_none (od_some ed_int)) ld_nil)) ld_nil)) ed_int) (ed_cb call_len cd_len (by rfl) T.z_len bt_len (ld_cons (ed_var (pv 0)) ld_nil))) ed_int)) (sds_cons (sd_for (passes_of rfl) rfl (id_seq (ed_sl (ed_var (pv 0)) od_none (od_some ed_int))) (gd_name (pg_name (i := 2) nd rfl (by first | exact Or.inl rfl | exact Or.inr rfl))) (sds_one (sd_asg (pg_name (i := 1) nd rfl (by first | exact Or.inl rfl | exact Or.inr rfl)) (ed_mod (ed_ct call_int1 cd_int (by rfl) T.z_int bt_int (ld_cons (ed_addX (ed_addX (ed_mulX (ed_var (pv 1)) ed_int) (ed_mod (ed_ct call_int1 cd_int (by rfl) T.z_int bt_int (ld_cons (ed_var (pv 2)) ld_nil)) ed_int)) ed_int) ld_nil)) ed_int)))) (sds_one (sd_ret (ed_tap (ld_cons (ed_var (pv 1)) (ld_cons ed_int (ld_cons (ed_lcC rfl nd (id_seq (ed_sl (ed_var (pv 0)) od_none (od_some ed_int))) (blkOk_by (own := [("_law_cell", 2)]) (by kernel_rfl)) (by decide) (fun _ _ _ _ _ => (gd_name (pg_name (i := 2) nd rfl (by first | exact Or.inl rfl | exact Or.inr rfl)))) (fun _ _ _ _ _ => (ts_one (td_cmp op_ge opd_ge (ed_cb call_abs cd_abs (by rfl) T.z_abs bt_abs (ld_cons (ed_var (pv 2)) ld_nil)) (ed_pow ed_int ed_int) (nomark _)))) (fun _ _ _ _ _ => (ed_cb call_abs cd_abs (by rfl) T.z_abs bt_abs (ld_cons (ed_var (pv 2)) ld_nil)))) ld_nil))))))))
theorem sc__law_draw : FnScope ["_law_pool_here", "_law_many", "_law_cells", "_law_mixed_here", "_law_digit"] ["_law_pool_here", "_law_many"] (defScope s__law_draw) := ⟨rfl, rfl, rfl, by decide +kernel, rfl, by decide +kernel, by decide +kernel⟩
set_option maxHeartbeats 0 in
theorem ok__law_draw (T : Txt K mg P A B) : FnD P w K mg base 1 A._law_draw B._law_draw ["_law_pool_here", "_law_many"] (phi__law_draw A) := fn_d (body := d__law_draw A) (N := ["_law_pool_here", "_law_many", "_law_cells", "_law_mixed_here", "_law_digit"]) (k := 0) T.F__law_draw sc__law_draw fun cdv Ar outer s H E hr => by
  have nd := sc__law_draw.nd
  exact (sds_cons (sd_put (ed_var (pv 0)) ed_int (ed_addX (ed_ix (ed_var (pv 0)) ed_int) ed_int)) (sds_cons (sd_asg (pg_name (i := 2) nd rfl (by first | exact Or.inl rfl | exact Or.inr rfl)) (ed_ix (ed_var (pv 0)) ed_int)) (sds_cons (sd_if (td_cmp op_gt opd_gt (ed_cb call_len cd_len (by rfl) T.z_len bt_len (ld_cons (ed_var (pv 2)) ld_nil)) ed_int (nomark _)) (sds_cons (sd_asg (pg_name (i := 4) nd rfl (by first | exact Or.inl rfl | exact Or.inr rfl)) (ed_mod (ed_ct call_int1 cd_int (by rfl) T.z_int bt_int (ld_cons (ed_ix (ed_var (pv 2)) ed_int) ld_nil)) (ed_var (pv 1)))) (sds_cons (sd_put (ed_var (pv 2)) ed_int (ed_div (ed_ct call_int1 cd_int (by rfl) T.z_int bt_int (ld_cons (ed_ix (ed_var (pv 2)) ed_int) ld_nil)) (ed_var (pv 1)))) (sds_cons (sd_if (td_cmp (op_eqD hr.units) opd_eq (ed_ix (ed_var (pv 2)) ed_int) ed_int (nomark _)) (sds_one (sd_expr (ed_lm PySem.F.slot_list_pop PySem.F.type_list_pop mt_popAt md_popI (ed_var (pv 2)) (ld_cons ed_int ld_nil)))) sds_nil) (sds_one (sd_ret (ed_var (pv 4))))))) sds_nil) (sds_cons (sd_asg (pg_name (i := 3) nd rfl (by first | exact Or.inl rfl | exact Or.inr rfl)) (ed_mod (ed_ct call_int1 cd_int (by rfl) T.z_int bt_int (ld_cons (ed_mulX (ed_addX (ed_ix (ed_var (pv 0)) ed_int) (ed_mulX ed_int (ed_ix (ed_var (pv 0)) ed_int))) ed_int) ld_nil)) ed_int)) (sds_cons (sd_asg (pg_name (i := 3) nd rfl (by first | exact Or.inl rfl | exact Or.inr rfl)) (ed_mod (ed_ct call_int1 cd_int (by rfl) T.z_int bt_int (ld_cons (ed_mulX (ed_var (pv 3)) (ed_addX (ed_div (ed_var (pv 3)) ed_int) ed_int)) ld_nil)) ed_int)) (sds_cons (sd_asg (pg_name (i := 3) nd rfl (by first | exact Or.inl rfl | exact Or.inr rfl)) (ed_mod (ed_ct call_int1 cd_int (by rfl) T.z_int bt_int (ld_cons (ed_mulX (ed_var (pv 3)) (ed_addX (ed_div (ed_var (pv 3)) ed_int) ed_int)) ld_nil)) ed_int)) (sds_one (sd_ret (ed_mod (ed_ct call_int1 cd_int (by rfl) T.z_int bt_int (ld_cons (ed_div (ed_var (pv 3)) ed_int) ld_nil)) (ed_var (pv 1)))))))))))
theorem sc__law_number : FnScope ["_law_pool_here", "_law_bound"] ["_law_pool_here"] (defScope s__law_number) := ⟨rfl, rfl, rfl, by decide +kernel, rfl, by decide +kernel, by decide +kernel⟩
set_option maxHeartbeats 0 in
theorem ok__law_number (T : Txt K mg P A B) : FnD P w K mg base 2 A._law_number B._law_number ["_law_pool_here"] (phi__law_number A) := fn_d (body := d__law_number A) (N := ["_law_pool_here", "_law_bound"]) (k := 1) T.F__law_number sc__law_number fun cdv Ar outer s H E hr => by
  have nd := sc__law_number.nd
  exact (sds_cons (sd_asg (pg_name (i := 1) nd rfl (by first | exact Or.inl rfl | exact Or.inr rfl)) (ed_pow ed_int ed_int)) (sds_one (sd_ret (ed_ix (ed_lst (ld_cons ed_int (ld_cons ed_int (ld_cons (ed_neg ed_int) (ld_cons ed_int (ld_cons (ed_var (pv 1)) (ld_cons (ed_neg (ed_var (pv 1))) (ld_cons (ed_call (ok__law_draw T) (hr.mono (by decide)) (takes_of rfl rfl rfl rfl) (by rfl) T.m__law_draw T.k__law_draw T.b__law_draw rfl (len_cons (len_cons len_nil)) (ld_cons (ed_var (pv 0)) (ld_cons (ed_addX (ed_var (pv 1)) ed_int) ld_nil))) (ld_cons (ed_neg (ed_call (ok__law_draw T) (hr.mono (by decide)) (takes_of rfl rfl rfl rfl) (by rfl) T.m__law_draw T.k__law_draw T.b__law_draw rfl (len_cons (len_cons len_nil)) (ld_cons (ed_var (pv 0)) (ld_cons (ed_addX (ed_var (pv 1)) ed_int) ld_nil)))) ld_nil))))))))) (ed_call (ok__law_draw T) (hr.mono (by decide)) (takes_of rfl rfl rfl rfl) (by rfl) T.m__law_draw T.k__law_draw T.b__law_draw rfl (len_cons (len_cons len_nil)) (ld_cons (ed_var (pv 0)) (ld_cons ed_int ld_nil)))))))
theorem sc_is_integer : FnScope ["thing"] ["thing"] (defScope s_is_integer) := ⟨rfl, rfl, rfl, by decide +kernel, rfl, by decide +kernel, by decide +kernel⟩
set_option maxHeartbeats 0 in
theorem ok_is_integer (T : Txt K mg P A B) : FnD P w K mg base 1 A.is_integer B.is_integer ["thing"] (phi_is_integer A) := fn_d (body := d_is_integer A) (N := ["thing"]) (k := 0) T.F_is_integer sc_is_integer fun cdv Ar outer s H E hr => by
  have nd := sc_is_integer.nd
  exact (sds_one (sd_ret (ed_and (ed_cb call_isi (cd_isi T.isC) (by rfl) T.z_isinstance bt_isinstance (ld_cons (ed_var (pv 0)) (ld_cons (ed_c (v := .ty "int") (d := .typ "int") (fun _ _ => .typ _) (pe_bltn (by rfl) T.z_int bt_int rfl)) ld_nil))) (ed_one (ed_not (ed_cb call_isi (cd_isi T.isC) (by rfl) T.z_isinstance bt_isinstance (ld_cons (ed_var (pv 0)) (ld_cons (ed_c (v := .ty "bool") (d := .typ "bool") (fun _ _ => .typ _) (pe_bltn (by rfl) T.z_bool bt_bool rfl)) ld_nil))))))))
theorem sc_are_integers : FnScope ["thing", "many", "item"] ["thing", "many"] (defScope s_are_integers) := ⟨rfl, rfl, rfl, by decide +kernel, rfl, by decide +kernel, by decide +kernel⟩
set_option maxHeartbeats 0 in
theorem ok_are_integers (T : Txt K mg P A B) : FnD P w K mg base 2 A.are_integers B.are_integers ["thing", "many"] (phi_are_integers A) := fn_d (body := d_are_integers A) (N := ["thing", "many", "item"]) (k := 1) T.F_are_integers sc_are_integers fun cdv Ar outer s H E hr => by
  have nd := sc_are_integers.nd
  exact (sds_one (sd_ret (ed_and (ed_cb call_isi (cd_isi T.isC) (by rfl) T.z_isinstance bt_isinstance (ld_cons (ed_var (pv 0)) (ld_cons (ed_c (v := .ty "tuple") (d := .typ "tuple") (fun _ _ => .typ _) (pe_bltn (by rfl) T.z_tuple bt_tuple rfl)) ld_nil))) (ed_and (ed_cmp (op_eqD hr.units) opd_eq (ed_cb call_len cd_len (by rfl) T.z_len bt_len (ld_cons (ed_var (pv 0)) ld_nil)) (ed_var (pv 1)) (nomark _)) (ed_one (ed_cb (cr_all rfl) cd_all (by rfl) T.z_all bt_all (ld_cons (ed_lc rfl nd (id_seq (ed_var (pv 0))) (blkOk_by (own := [("item", 2)]) (by kernel_rfl)) (by decide) (fun _ _ _ _ _ => (gd_name (pg_name (i := 2) nd rfl (by first | exact Or.inl rfl | exact Or.inr rfl)))) (fun _ _ _ _ _ => ts_nil) (fun _ _ _ _ _ => (ed_call (ok_is_integer T) (hr.mono (by decide)) takes_none5 (by rfl) T.m_is_integer T.k_is_integer T.b_is_integer rfl (len_cons len_nil) (ld_cons (ed_var (pv 2)) ld_nil)))) ld_nil)))))))
theorem sc_are_within : FnScope ["thing", "many", "least", "most", "item"] ["thing", "many", "least", "most"] (defScope s_are_within) := ⟨rfl, rfl, rfl, by decide +kernel, rfl, by decide +kernel, by decide +kernel⟩
set_option maxHeartbeats 0 in
theorem ok_are_within (T : Txt K mg P A B) : FnD P w K mg base 3 A.are_within B.are_within ["thing", "many", "least", "most"] (phi_are_within A) := fn_d (body := d_are_within A) (N := ["thing", "many", "least", "most", "item"]) (k := 2) T.F_are_within sc_are_within fun cdv Ar outer s H E hr => by
  have nd := sc_are_within.nd
  exact (sds_one (sd_ret (ed_and (ed_call (ok_are_integers T) (hr.mono (by decide)) (takes_of rfl rfl rfl rfl) (by rfl) T.m_are_integers T.k_are_integers T.b_are_integers rfl (len_cons (len_cons len_nil)) (ld_cons (ed_var (pv 0)) (ld_cons (ed_var (pv 1)) ld_nil))) (ed_one (ed_cb (cr_all rfl) cd_all (by rfl) T.z_all bt_all (ld_cons (ed_lc rfl nd (id_seq (ed_var (pv 0))) (blkOk_by (own := [("item", 4)]) (by kernel_rfl)) (by decide) (fun _ _ _ _ _ => (gd_name (pg_name (i := 4) nd rfl (by first | exact Or.inl rfl | exact Or.inr rfl)))) (fun _ _ _ _ _ => ts_nil) (fun _ _ _ _ _ => (ed_chain op_le op_le opd_le opd_le (ed_var (pv 2)) (ed_var (pv 4)) (ed_var (pv 3))))) ld_nil))))))
theorem sc_are_numbers : FnScope ["thing", "many"] ["thing", "many"] (defScope s_are_numbers) := ⟨rfl, rfl, rfl, by decide +kernel, rfl, by decide +kernel, by decide +kernel⟩
set_option maxHeartbeats 0 in
theorem ok_are_numbers (T : Txt K mg P A B) : FnD P w K mg base 4 A.are_numbers B.are_numbers ["thing", "many"] (phi_are_numbers A) := fn_d (body := d_are_numbers A) (N := ["thing", "many"]) (k := 3) T.F_are_numbers sc_are_numbers fun cdv Ar outer s H E hr => by
  have nd := sc_are_numbers.nd
  exact (sds_one (sd_ret (ed_call (ok_are_within T) (hr.mono (by decide)) (takes_of rfl rfl rfl rfl) (by rfl) T.m_are_within T.k_are_within T.b_are_within rfl (len_cons (len_cons (len_cons (len_cons len_nil)))) (ld_cons (ed_var (pv 0)) (ld_cons (ed_var (pv 1)) (ld_cons (ed_neg (ed_c (v := .int 10000000000000000000000000000000000000000) (fun _ _ => .int _) (pe_gc (by rfl) T.c_MOST_NUMBER))) (ld_cons (ed_c (v := .int 10000000000000000000000000000000000000000) (fun _ _ => .int _) (pe_gc (by rfl) T.c_MOST_NUMBER)) ld_nil)))))))
theorem sc_Task___init__ : FnScope ["self", "rows", "amounts", "worths", "row"] ["self", "rows", "amounts", "worths"] (defScope s_Task___init__) := ⟨rfl, rfl, rfl, by decide +kernel, rfl, by decide +kernel, by decide +kernel⟩
set_option maxHeartbeats 0 in
theorem ok_Task___init__ (T : Txt K mg P A B) : FnD P w K mg base 5 A.Task___init__ B.Task___init__ ["self", "rows", "amounts", "worths"] (phi_Task___init__ A) := fn_d (body := d_Task___init__ A) (N := ["self", "rows", "amounts", "worths", "row"]) (k := 4) T.F_Task___init__ sc_Task___init__ fun cdv Ar outer s H E hr => by
  have nd := sc_Task___init__.nd
  exact (sds_cons (sd_if (td_w (wd_or (td_not (td_val (ed_cb call_isi (cd_isi T.isC) (by rfl) T.z_isinstance bt_isinstance (ld_cons (ed_var (pv 3)) (ld_cons (ed_c (v := .ty "tuple") (d := .typ "tuple") (fun _ _ => .typ _) (pe_bltn (by rfl) T.z_tuple bt_tuple rfl)) ld_nil))))) (wd_or (td_not (td_chain op_le op_le opd_le opd_le ed_int (ed_cb call_len cd_len (by rfl) T.z_len bt_len (ld_cons (ed_var (pv 3)) ld_nil)) (ed_c (v := .int 100) (fun _ _ => .int _) (pe_gc (by rfl) T.c_MOST_PLACES)))) (wd_or1 (td_not (td_val (ed_call (ok_are_numbers T) (hr.mono (by decide)) (takes_of rfl rfl rfl rfl) (by rfl) T.m_are_numbers T.k_are_numbers T.b_are_numbers rfl (len_cons (len_cons len_nil)) (ld_cons (ed_var (pv 3)) (ld_cons (ed_cb call_len cd_len (by rfl) T.z_len bt_len (ld_cons (ed_var (pv 3)) ld_nil)) ld_nil))))))))) (sds_one (sd_raise1 rfl (takes_of rfl rfl rfl rfl) (pmk1 T.xt_BadTask T.xn_BadTask T.nx_BadTask_part (by decide) (by decide) (by decide) (by decide) (by rfl) T.m_BadTask T.kk_BadTask T.ex_BadTask T.ty_BadTask hr (ld_cons ed_str ld_nil)))) sds_nil) (sds_cons (sd_if (td_w (wd_or (td_not (td_val (ed_cb call_isi (cd_isi T.isC) (by rfl) T.z_isinstance bt_isinstance (ld_cons (ed_var (pv 1)) (ld_cons (ed_c (v := .ty "tuple") (d := .typ "tuple") (fun _ _ => .typ _) (pe_bltn (by rfl) T.z_tuple bt_tuple rfl)) ld_nil))))) (wd_or1 (td_cmp op_gt opd_gt (ed_cb call_len cd_len (by rfl) T.z_len bt_len (ld_cons (ed_var (pv 1)) ld_nil)) (ed_c (v := .int 40) (fun _ _ => .int _) (pe_gc (by rfl) T.c_MOST_ROWS)) (nomark _))))) (sds_one (sd_raise1 rfl (takes_of rfl rfl rfl rfl) (pmk1 T.xt_BadTask T.xn_BadTask T.nx_BadTask_part (by decide) (by decide) (by decide) (by decide) (by rfl) T.m_BadTask T.kk_BadTask T.ex_BadTask T.ty_BadTask hr (ld_cons ed_str ld_nil)))) sds_nil) (sds_cons (sd_if (td_not (td_val (ed_cb (cr_all rfl) cd_all (by rfl) T.z_all bt_all (ld_cons (ed_lc rfl nd (id_seq (ed_var (pv 1))) (blkOk_by (own := [("row", 4)]) (by kernel_rfl)) (by decide) (fun _ _ _ _ _ => (gd_name (pg_name (i := 4) nd rfl (by first | exact Or.inl rfl | exact Or.inr rfl)))) (fun _ _ _ _ _ => ts_nil) (fun _ _ _ _ _ => (ed_call (ok_are_numbers T) (hr.mono (by decide)) takes_none5 (by rfl) T.m_are_numbers T.k_are_numbers T.b_are_numbers rfl (len_cons (len_cons len_nil)) (ld_cons (ed_var (pv 4)) (ld_cons (ed_cb call_len cd_len (by rfl) T.z_len bt_len (ld_cons (ed_var (pv 3)) ld_nil)) ld_nil))))) ld_nil)))) (sds_one (sd_raise1 rfl (takes_of rfl rfl rfl rfl) (pmk1 T.xt_BadTask T.xn_BadTask T.nx_BadTask_part (by decide) (by decide) (by decide) (by decide) (by rfl) T.m_BadTask T.kk_BadTask T.ex_BadTask T.ty_BadTask hr (ld_cons ed_str ld_nil)))) sds_nil) (sds_cons (sd_if (td_not (td_val (ed_call (ok_are_numbers T) (hr.mono (by decide)) (takes_of rfl rfl rfl rfl) (by rfl) T.m_are_numbers T.k_are_numbers T.b_are_numbers rfl (len_cons (len_cons len_nil)) (ld_cons (ed_var (pv 2)) (ld_cons (ed_cb call_len cd_len (by rfl) T.z_len bt_len (ld_cons (ed_var (pv 1)) ld_nil)) ld_nil))))) (sds_one (sd_raise1 rfl (takes_of rfl rfl rfl rfl) (pmk1 T.xt_BadTask T.xn_BadTask T.nx_BadTask_part (by decide) (by decide) (by decide) (by decide) (by rfl) T.m_BadTask T.kk_BadTask T.ex_BadTask T.ty_BadTask hr (ld_cons ed_str ld_nil)))) sds_nil) (sds_cons (sd_fld T.n_Task_rows (ed_var (pv 0)) (ed_var (pv 1))) (sds_cons (sd_fld T.n_Task_amounts (ed_var (pv 0)) (ed_var (pv 2))) (sds_one (sd_fld T.n_Task_worths (ed_var (pv 0)) (ed_var (pv 3))))))))))
theorem sc__law_told : FnScope ["_law_rows", "_law_amounts", "_law_worths", "_law_found", "e"] ["_law_rows", "_law_amounts", "_law_worths"] (defScope s__law_told) := ⟨rfl, rfl, rfl, by decide +kernel, rfl, by decide +kernel, by decide +kernel⟩
set_option maxHeartbeats 0 in
theorem ok__law_told (T : Txt K mg P A B) : FnD P w K mg base 7 A._law_told B._law_told ["_law_rows", "_law_amounts", "_law_worths"] (phi__law_told A) := fn_d (body := d__law_told A) (N := ["_law_rows", "_law_amounts", "_law_worths", "_law_found", "e"]) (k := 6) T.F__law_told sc__law_told fun cdv Ar outer s H E hr => by
  have nd := sc__law_told.nd
  exact (sds_cons (sd_asg (pg_name (i := 3) nd rfl (by first | exact Or.inl rfl | exact Or.inr rfl)) (ed_tup (ld_cons ed_str (ld_cons ed_non ld_nil)))) (sds_cons (sd_try1 (c := (Value.ref A.TurnError)) (i := 4) (sb := xsub_TurnError A) (h := fun a C d => seqS (asgS 3 (tupD (consL (cD (.str "other")) (consL (cD .non) (nilL))))) (ifS (andB (asB (cbD (isxS a C d (xtab A)) (consL (varD 4) (consL (cD (.adr A.BadTask)) (nilL))))) (asB (cbD (isxS a C d (xtab A)) (consL (varD 4) (consL (cD (.typ "ValueError")) (nilL)))))) (asgS 3 (tupD (consL ((fun ρ g => ((varD 4) ρ g).bind (xfS a C d A.BadTask "part"))) (consL (cD .non) (nilL))))) (nextS))) rfl rfl nd rfl rfl ⟨by rfl, by decide, Or.inl T.m_TurnError⟩ (takes_of rfl rfl rfl rfl) (fun W pn xe tk hpo => (sds_one (sd_asg (pg_name (i := 3) nd rfl (by first | exact Or.inl rfl | exact Or.inr rfl)) (ed_tup (ld_cons ed_str (ld_cons (ed_frz (ed_make T.mk_Task T.kc_Task (ok_Task___init__ T) (hr.mono (by decide)) tk (by rfl) T.m_Task T.b_Task___init__ rfl (len_cons (len_cons (len_cons len_nil))) (ld_cons (ed_var (pv 0)) (ld_cons (ed_var (pv 1)) (ld_cons (ed_var (pv 2)) ld_nil))))) ld_nil)))))) T.xs_TurnError (fun a oe C d pn hz hf => (sds_cons (sd_asg (pg_name (i := 3) nd rfl (by first | exact Or.inl rfl | exact Or.inr rfl)) (ed_tup (ld_cons ed_str (ld_cons ed_non ld_nil)))) (sds_one (sd_if (td_w (wd_and (td_val (ed_cb (call_isx T.xt hz hf) cd_isx (by rfl) T.z_isinstance bt_isinstance (ld_cons (ed_var (pv 4)) (ld_cons (ed_c (v := .ref A.BadTask) (d := .adr A.BadTask) (fun _ _ => .adr _) (pe_glob (by rfl) T.m_BadTask rfl)) ld_nil)))) (wd_and1 (td_val (ed_cb (call_isx T.xt hz hf) cd_isx (by rfl) T.z_isinstance bt_isinstance (ld_cons (ed_var (pv 4)) (ld_cons (ed_c (v := .ty "ValueError") (d := .typ "ValueError") (fun _ _ => .typ _) (pe_bltn (by rfl) T.z_ValueError bt_ValueError rfl)) ld_nil))))))) (sds_one (sd_asg (pg_name (i := 3) nd rfl (by first | exact Or.inl rfl | exact Or.inr rfl)) (ed_tup (ld_cons (ed_xf T.xf_BadTask T.nx_BadTask_part hz hf (ed_var (pv 4))) (ld_cons ed_non ld_nil))))) sds_nil))))) (sds_one (sd_ret (ed_var (pv 3))))))
theorem sc__law_is_int : FnScope ["_law_thing"] ["_law_thing"] (defScope s__law_is_int) := ⟨rfl, rfl, rfl, by decide +kernel, rfl, by decide +kernel, by decide +kernel⟩
set_option maxHeartbeats 0 in
theorem ok__law_is_int (T : Txt K mg P A B) : FnD P w K mg base 1 A._law_is_int B._law_is_int ["_law_thing"] (phi__law_is_int A) := fn_d (body := d__law_is_int A) (N := ["_law_thing"]) (k := 0) T.F__law_is_int sc__law_is_int fun cdv Ar outer s H E hr => by
  have nd := sc__law_is_int.nd
  exact (sds_one (sd_ret (ed_and (ed_cb call_isi (cd_isi T.isC) (by rfl) T.z_isinstance bt_isinstance (ld_cons (ed_var (pv 0)) (ld_cons (ed_c (v := .ty "int") (d := .typ "int") (fun _ _ => .typ _) (pe_bltn (by rfl) T.z_int bt_int rfl)) ld_nil))) (ed_one (ed_not (ed_cb call_isi (cd_isi T.isC) (by rfl) T.z_isinstance bt_isinstance (ld_cons (ed_var (pv 0)) (ld_cons (ed_c (v := .ty "bool") (d := .typ "bool") (fun _ _ => .typ _) (pe_bltn (by rfl) T.z_bool bt_bool rfl)) ld_nil))))))))
theorem sc__law_are_ints : FnScope ["_law_things", "_law_many", "_law_one"] ["_law_things", "_law_many"] (defScope s__law_are_ints) := ⟨rfl, rfl, rfl, by decide +kernel, rfl, by decide +kernel, by decide +kernel⟩
set_option maxHeartbeats 0 in
theorem ok__law_are_ints (T : Txt K mg P A B) : FnD P w K mg base 2 A._law_are_ints B._law_are_ints ["_law_things", "_law_many"] (phi__law_are_ints A) := fn_d (body := d__law_are_ints A) (N := ["_law_things", "_law_many", "_law_one"]) (k := 1) T.F__law_are_ints sc__law_are_ints fun cdv Ar outer s H E hr => by
  have nd := sc__law_are_ints.nd
  exact (sds_one (sd_ret (ed_and (ed_cb call_isi (cd_isi T.isC) (by rfl) T.z_isinstance bt_isinstance (ld_cons (ed_var (pv 0)) (ld_cons (ed_c (v := .ty "tuple") (d := .typ "tuple") (fun _ _ => .typ _) (pe_bltn (by rfl) T.z_tuple bt_tuple rfl)) ld_nil))) (ed_and (ed_cmp (op_eqD hr.units) opd_eq (ed_cb call_len cd_len (by rfl) T.z_len bt_len (ld_cons (ed_var (pv 0)) ld_nil)) (ed_var (pv 1)) (nomark _)) (ed_one (ed_cb (cr_all rfl) cd_all (by rfl) T.z_all bt_all (ld_cons (ed_lc rfl nd (id_seq (ed_var (pv 0))) (blkOk_by (own := [("_law_one", 2)]) (by kernel_rfl)) (by decide) (fun _ _ _ _ _ => (gd_name (pg_name (i := 2) nd rfl (by first | exact Or.inl rfl | exact Or.inr rfl)))) (fun _ _ _ _ _ => ts_nil) (fun _ _ _ _ _ => (ed_call (ok__law_is_int T) (hr.mono (by decide)) takes_none5 (by rfl) T.m__law_is_int T.k__law_is_int T.b__law_is_int rfl (len_cons len_nil) (ld_cons (ed_var (pv 2)) ld_nil)))) ld_nil)))))))
theorem sc__law_are_numbers : FnScope ["_law_thing", "_law_many", "_law_number_here"] ["_law_thing", "_law_many"] (defScope s__law_are_numbers) := ⟨rfl, rfl, rfl, by decide +kernel, rfl, by decide +kernel, by decide +kernel⟩
set_option maxHeartbeats 0 in
theorem ok__law_are_numbers (T : Txt K mg P A B) : FnD P w K mg base 3 A._law_are_numbers B._law_are_numbers ["_law_thing", "_law_many"] (phi__law_are_numbers A) := fn_d (body := d__law_are_numbers A) (N := ["_law_thing", "_law_many", "_law_number_here"]) (k := 2) T.F__law_are_numbers sc__law_are_numbers fun cdv Ar outer s H E hr => by
  have nd := sc__law_are_numbers.nd
  exact (sds_cons (sd_if (td_not (td_val (ed_call (ok__law_are_ints T) (hr.mono (by decide)) (takes_of rfl rfl rfl rfl) (by rfl) T.m__law_are_ints T.k__law_are_ints T.b__law_are_ints rfl (len_cons (len_cons len_nil)) (ld_cons (ed_var (pv 0)) (ld_cons (ed_var (pv 1)) ld_nil))))) (sds_one (sd_ret ed_bl)) sds_nil) (sds_one (sd_ret (ed_cb (cr_all rfl) cd_all (by rfl) T.z_all bt_all (ld_cons (ed_lc rfl nd (id_seq (ed_var (pv 0))) (blkOk_by (own := [("_law_number_here", 2)]) (by kernel_rfl)) (by decide) (fun _ _ _ _ _ => (gd_name (pg_name (i := 2) nd rfl (by first | exact Or.inl rfl | exact Or.inr rfl)))) (fun _ _ _ _ _ => ts_nil) (fun _ _ _ _ _ => (ed_and (ed_cmp op_le opd_le (ed_neg (ed_pow ed_int ed_int)) (ed_var (pv 2)) (nomark _)) (ed_one (ed_cmp op_le opd_le (ed_var (pv 2)) (ed_pow ed_int ed_int) (nomark _)))))) ld_nil)))))
theorem sc__law_due : FnScope ["_law_rows", "_law_amounts", "_law_worths", "_law_row"] ["_law_rows", "_law_amounts", "_law_worths"] (defScope s__law_due) := ⟨rfl, rfl, rfl, by decide +kernel, rfl, by decide +kernel, by decide +kernel⟩
set_option maxHeartbeats 0 in
theorem ok__law_due (T : Txt K mg P A B) : FnD P w K mg base 4 A._law_due B._law_due ["_law_rows", "_law_amounts", "_law_worths"] (phi__law_due A) := fn_d (body := d__law_due A) (N := ["_law_rows", "_law_amounts", "_law_worths", "_law_row"]) (k := 3) T.F__law_due sc__law_due fun cdv Ar outer s H E hr => by
  have nd := sc__law_due.nd
  exact (sds_cons (sd_if (td_w (wd_or (td_not (td_val (ed_cb call_isi (cd_isi T.isC) (by rfl) T.z_isinstance bt_isinstance (ld_cons (ed_var (pv 2)) (ld_cons (ed_c (v := .ty "tuple") (d := .typ "tuple") (fun _ _ => .typ _) (pe_bltn (by rfl) T.z_tuple bt_tuple rfl)) ld_nil))))) (wd_or (td_not (td_chain op_le op_le opd_le opd_le ed_int (ed_cb call_len cd_len (by rfl) T.z_len bt_len (ld_cons (ed_var (pv 2)) ld_nil)) ed_int)) (wd_or1 (td_not (td_val (ed_call (ok__law_are_numbers T) (hr.mono (by decide)) (takes_of rfl rfl rfl rfl) (by rfl) T.m__law_are_numbers T.k__law_are_numbers T.b__law_are_numbers rfl (len_cons (len_cons len_nil)) (ld_cons (ed_var (pv 2)) (ld_cons (ed_cb call_len cd_len (by rfl) T.z_len bt_len (ld_cons (ed_var (pv 2)) ld_nil)) ld_nil))))))))) (sds_one (sd_ret ed_str)) sds_nil) (sds_cons (sd_if (td_w (wd_or (td_not (td_val (ed_cb call_isi (cd_isi T.isC) (by rfl) T.z_isinstance bt_isinstance (ld_cons (ed_var (pv 0)) (ld_cons (ed_c (v := .ty "tuple") (d := .typ "tuple") (fun _ _ => .typ _) (pe_bltn (by rfl) T.z_tuple bt_tuple rfl)) ld_nil))))) (wd_or (td_cmp op_gt opd_gt (ed_cb call_len cd_len (by rfl) T.z_len bt_len (ld_cons (ed_var (pv 0)) ld_nil)) ed_int (nomark _)) (wd_or1 (td_not (td_val (ed_cb (cr_all rfl) cd_all (by rfl) T.z_all bt_all (ld_cons (ed_lc rfl nd (id_seq (ed_var (pv 0))) (blkOk_by (own := [("_law_row", 3)]) (by kernel_rfl)) (by decide) (fun _ _ _ _ _ => (gd_name (pg_name (i := 3) nd rfl (by first | exact Or.inl rfl | exact Or.inr rfl)))) (fun _ _ _ _ _ => ts_nil) (fun _ _ _ _ _ => (ed_call (ok__law_are_numbers T) (hr.mono (by decide)) takes_none5 (by rfl) T.m__law_are_numbers T.k__law_are_numbers T.b__law_are_numbers rfl (len_cons (len_cons len_nil)) (ld_cons (ed_var (pv 3)) (ld_cons (ed_cb call_len cd_len (by rfl) T.z_len bt_len (ld_cons (ed_var (pv 2)) ld_nil)) ld_nil))))) ld_nil)))))))) (sds_one (sd_ret ed_str)) sds_nil) (sds_cons (sd_if (td_not (td_val (ed_call (ok__law_are_numbers T) (hr.mono (by decide)) (takes_of rfl rfl rfl rfl) (by rfl) T.m__law_are_numbers T.k__law_are_numbers T.b__law_are_numbers rfl (len_cons (len_cons len_nil)) (ld_cons (ed_var (pv 1)) (ld_cons (ed_cb call_len cd_len (by rfl) T.z_len bt_len (ld_cons (ed_var (pv 0)) ld_nil)) ld_nil))))) (sds_one (sd_ret ed_str)) sds_nil) (sds_one (sd_ret ed_str)))))
theorem sc_Task___eq__ : FnScope ["self", "other"] ["self", "other"] (defScope s_Task___eq__) := ⟨rfl, rfl, rfl, by decide +kernel, rfl, by decide +kernel, by decide +kernel⟩
set_option maxHeartbeats 0 in
theorem ok_Task___eq__ (T : Txt K mg P A B) : FnD P w K mg base 1 A.Task___eq__ B.Task___eq__ ["self", "other"] (phi_Task___eq__ A) := fn_d (body := d_Task___eq__ A) (N := ["self", "other"]) (k := 0) T.F_Task___eq__ sc_Task___eq__ fun cdv Ar outer s H E hr => by
  have nd := sc_Task___eq__.nd
  exact (sds_cons (sd_if (td_not (td_val (ed_cb call_isi (cd_isi T.isC) (by rfl) T.z_isinstance bt_isinstance (ld_cons (ed_var (pv 1)) (ld_cons (ed_c (v := .ref A.Task) (d := .adr A.Task) (fun _ _ => .adr _) (pe_glob (by rfl) T.m_Task rfl)) ld_nil))))) (sds_one (sd_ret ed_bl)) sds_nil) (sds_one (sd_ret (ed_cmp (op_eqD hr.units) opd_eq (ed_tup (ld_cons (ed_fld T.n_Task_rows (ed_var (pv 0))) (ld_cons (ed_fld T.n_Task_amounts (ed_var (pv 0))) (ld_cons (ed_fld T.n_Task_worths (ed_var (pv 0))) ld_nil)))) (ed_tup (ld_cons (ed_fld T.n_Task_rows (ed_var (pv 1))) (ld_cons (ed_fld T.n_Task_amounts (ed_var (pv 1))) (ld_cons (ed_fld T.n_Task_worths (ed_var (pv 1))) ld_nil)))) (nomark _)))))
theorem sc__law_is_right : FnScope ["_law_rows", "_law_amounts", "_law_worths", "_law_other", "_law_word", "_law_task"] ["_law_rows", "_law_amounts", "_law_worths"] (defScope s__law_is_right) := ⟨rfl, rfl, rfl, by decide +kernel, rfl, by decide +kernel, by decide +kernel⟩
set_option maxHeartbeats 0 in
theorem ok__law_is_right (T : Txt K mg P A B) : FnD P w K mg base 8 A._law_is_right B._law_is_right ["_law_rows", "_law_amounts", "_law_worths"] (phi__law_is_right A) := fn_d (body := d__law_is_right A) (N := ["_law_rows", "_law_amounts", "_law_worths", "_law_other", "_law_word", "_law_task"]) (k := 7) T.F__law_is_right sc__law_is_right fun cdv Ar outer s H E hr => by
  have nd := sc__law_is_right.nd
  exact (sds_cons (sd_set (gd_tup (n := 2) rfl (gds_cons (gd_name (pg_name (i := 4) nd rfl (by first | exact Or.inl rfl | exact Or.inr rfl))) (gds_cons (gd_name (pg_name (i := 5) nd rfl (by first | exact Or.inl rfl | exact Or.inr rfl))) gds_nil))) (ed_call (ok__law_told T) (hr.mono (by decide)) (takes_of rfl rfl rfl rfl) (by rfl) T.m__law_told T.k__law_told T.b__law_told rfl (len_cons (len_cons (len_cons len_nil))) (ld_cons (ed_var (pv 0)) (ld_cons (ed_var (pv 1)) (ld_cons (ed_var (pv 2)) ld_nil))))) (sds_cons (sd_if (td_cmp (op_neD hr.units) opd_ne (ed_var (pv 4)) (ed_call (ok__law_due T) (hr.mono (by decide)) (takes_of rfl rfl rfl rfl) (by rfl) T.m__law_due T.k__law_due T.b__law_due rfl (len_cons (len_cons (len_cons len_nil))) (ld_cons (ed_var (pv 0)) (ld_cons (ed_var (pv 1)) (ld_cons (ed_var (pv 2)) ld_nil)))) (nomark _)) (sds_one (sd_ret ed_bl)) sds_nil) (sds_cons (sd_if (td_cmp (op_neD hr.units) opd_ne (ed_var (pv 4)) ed_str (nomark _)) (sds_one (sd_ret ed_bl)) sds_nil) (sds_cons (sd_if (td_cmp (op_neD hr.units) opd_ne (ed_tup (ld_cons (ed_fld T.n_Task_rows (ed_var (pv 5))) (ld_cons (ed_fld T.n_Task_amounts (ed_var (pv 5))) (ld_cons (ed_fld T.n_Task_worths (ed_var (pv 5))) ld_nil)))) (ed_tup (ld_cons (ed_var (pv 0)) (ld_cons (ed_var (pv 1)) (ld_cons (ed_var (pv 2)) ld_nil)))) (nomark _)) (sds_one (sd_ret ed_bl)) sds_nil) (sds_cons (sd_if (td_w (wd_or (td_not (td_cmp (op_eqX (ok_Task___eq__ T) T.e_Task T.fn_Task___eq__ T.b_Task___eq__ (hr.mono (by decide))) (opd_eqX rfl) (ed_var (pv 5)) (ed_frz (ed_make T.mk_Task T.kc_Task (ok_Task___init__ T) (hr.mono (by decide)) (takes_of rfl rfl rfl rfl) (by rfl) T.m_Task T.b_Task___init__ rfl (len_cons (len_cons (len_cons len_nil))) (ld_cons (ed_var (pv 0)) (ld_cons (ed_var (pv 1)) (ld_cons (ed_var (pv 2)) ld_nil))))) (nomark _))) (wd_or (td_cmp (op_eqX (ok_Task___eq__ T) T.e_Task T.fn_Task___eq__ T.b_Task___eq__ (hr.mono (by decide))) (opd_eqX rfl) (ed_var (pv 5)) (ed_tup (ld_cons (ed_var (pv 0)) (ld_cons (ed_var (pv 1)) (ld_cons (ed_var (pv 2)) ld_nil)))) (nomark _)) (wd_or1 (td_cmp (op_eqX (ok_Task___eq__ T) T.e_Task T.fn_Task___eq__ T.b_Task___eq__ (hr.mono (by decide))) (opd_eqX rfl) (ed_var (pv 5)) ed_int (nomark _)))))) (sds_one (sd_ret ed_bl)) sds_nil) (sds_cons (sd_asg (pg_name (i := 3) nd rfl (by first | exact Or.inl rfl | exact Or.inr rfl)) (ed_addX (ed_tup (ld_cons (ed_sub (ed_addX (ed_ix (ed_var (pv 2)) ed_int) ed_int) (ed_mulX ed_int (ed_ct call_int1 cd_int (by rfl) T.z_int bt_int (ld_cons (ed_cmp op_gt opd_gt (ed_ix (ed_var (pv 2)) ed_int) ed_int (nomark _)) ld_nil)))) ld_nil)) (ed_sl (ed_var (pv 2)) (od_some ed_int) od_none))) (sds_one (sd_ret (ed_and (ed_not (ed_cmp (op_eqX (ok_Task___eq__ T) T.e_Task T.fn_Task___eq__ T.b_Task___eq__ (hr.mono (by decide))) (opd_eqX rfl) (ed_var (pv 5)) (ed_frz (ed_make T.mk_Task T.kc_Task (ok_Task___init__ T) (hr.mono (by decide)) (takes_of rfl rfl rfl rfl) (by rfl) T.m_Task T.b_Task___init__ rfl (len_cons (len_cons (len_cons len_nil))) (ld_cons (ed_var (pv 0)) (ld_cons (ed_var (pv 1)) (ld_cons (ed_var (pv 3)) ld_nil))))) (nomark _))) (ed_one (ed_not (ed_cmp (op_eqX (ok_Task___eq__ T) T.e_Task T.fn_Task___eq__ T.b_Task___eq__ (hr.mono (by decide))) (opd_eqX rfl) (ed_var (pv 5)) (ed_frz (ed_make T.mk_Task T.kc_Task (ok_Task___init__ T) (hr.mono (by decide)) (takes_of rfl rfl rfl rfl) (by rfl) T.m_Task T.b_Task___init__ rfl (len_cons (len_cons (len_cons len_nil))) (ld_cons (ed_addX (ed_var (pv 0)) (ed_tup (ld_cons (ed_var (pv 2)) ld_nil))) (ld_cons (ed_addX (ed_var (pv 1)) (ed_tup (ld_cons ed_int ld_nil))) (ld_cons (ed_var (pv 2)) ld_nil))))) (nomark _)))))))))))))
theorem sc__law_deep : FnScope ["_law_thing", "_law_turn"] [] (defScope s__law_deep) := ⟨rfl, rfl, rfl, by decide +kernel, rfl, by decide +kernel, by decide +kernel⟩
set_option maxHeartbeats 0 in
theorem ok__law_deep (T : Txt K mg P A B) : FnD P w K mg base 1 A._law_deep B._law_deep [] (phi__law_deep A) := fn_d (body := d__law_deep A) (N := ["_law_thing", "_law_turn"]) (k := 0) T.F__law_deep sc__law_deep fun cdv Ar outer s H E hr => by
  have nd := sc__law_deep.nd
  exact (sds_cons (sd_asg (pg_name (i := 0) nd rfl (by first | exact Or.inl rfl | exact Or.inr rfl)) (ed_tup (ld_cons ed_int ld_nil))) (sds_cons (sd_for (passes_of rfl) rfl (id_range1 (by rfl) T.z_range (ld_cons ed_int ld_nil)) (gd_name (pg_name (i := 1) nd rfl (by first | exact Or.inl rfl | exact Or.inr rfl))) (sds_one (sd_asg (pg_name (i := 0) nd rfl (by first | exact Or.inl rfl | exact Or.inr rfl)) (ed_tup (ld_cons (ed_var (pv 0)) ld_nil))))) (sds_one (sd_ret (ed_var (pv 0))))))
theorem sc__law_bent : FnScope ["_law_pool_here", "_law_row", "_law_at", "_law_odd_here", "_law_way"] ["_law_pool_here", "_law_row"] (defScope s__law_bent) := ⟨rfl, rfl, rfl, by decide +kernel, rfl, by decide +kernel, by decide +kernel⟩
set_option maxHeartbeats 0 in
theorem ok__law_bent (T : Txt K mg P A B) : FnD P w K mg base 2 A._law_bent B._law_bent ["_law_pool_here", "_law_row"] (phi__law_bent A) := fn_d (body := d__law_bent A) (N := ["_law_pool_here", "_law_row", "_law_at", "_law_odd_here", "_law_way"]) (k := 1) T.F__law_bent sc__law_bent fun cdv Ar outer s H E hr => by
  have nd := sc__law_bent.nd
  exact (sds_cons (sd_asg (pg_name (i := 2) nd rfl (by first | exact Or.inl rfl | exact Or.inr rfl)) (ed_call (ok__law_draw T) (hr.mono (by decide)) (takes_of rfl rfl rfl rfl) (by rfl) T.m__law_draw T.k__law_draw T.b__law_draw rfl (len_cons (len_cons len_nil)) (ld_cons (ed_var (pv 0)) (ld_cons (ed_addX (ed_cb call_len cd_len (by rfl) T.z_len bt_len (ld_cons (ed_var (pv 1)) ld_nil)) ed_int) ld_nil)))) (sds_cons (sd_asg (pg_name (i := 3) nd rfl (by first | exact Or.inl rfl | exact Or.inr rfl)) (ed_ix (ed_lst (ld_cons ed_bl (ld_cons ed_bl (ld_cons ed_non (ld_cons ed_str (ld_cons (ed_addX (ed_pow ed_int ed_int) ed_int) (ld_cons (ed_sub (ed_neg (ed_pow ed_int ed_int)) ed_int) (ld_cons (ed_tup (ld_cons ed_int ld_nil)) (ld_cons ed_int (ld_cons (ed_lst (ld_cons ed_int ld_nil)) (ld_cons (ed_call0 (ok__law_deep T) (hr.mono (by decide)) (takes_of rfl rfl rfl rfl) (by rfl) T.m__law_deep T.k__law_deep T.b__law_deep) ld_nil))))))))))) (ed_call (ok__law_draw T) (hr.mono (by decide)) (takes_of rfl rfl rfl rfl) (by rfl) T.m__law_draw T.k__law_draw T.b__law_draw rfl (len_cons (len_cons len_nil)) (ld_cons (ed_var (pv 0)) (ld_cons ed_int ld_nil))))) (sds_cons (sd_asg (pg_name (i := 4) nd rfl (by first | exact Or.inl rfl | exact Or.inr rfl)) (ed_call (ok__law_draw T) (hr.mono (by decide)) (takes_of rfl rfl rfl rfl) (by rfl) T.m__law_draw T.k__law_draw T.b__law_draw rfl (len_cons (len_cons len_nil)) (ld_cons (ed_var (pv 0)) (ld_cons ed_int ld_nil)))) (sds_cons (sd_if (td_cmp (op_eqD hr.units) opd_eq (ed_var (pv 4)) ed_int (nomark _)) (sds_one (sd_ret (ed_addX (ed_addX (ed_sl (ed_var (pv 1)) od_none (od_some (ed_var (pv 2)))) (ed_tup (ld_cons (ed_var (pv 3)) ld_nil))) (ed_sl (ed_var (pv 1)) (od_some (ed_var (pv 2))) od_none)))) sds_nil) (sds_cons (sd_if (td_cmp (op_eqD hr.units) opd_eq (ed_var (pv 4)) ed_int (nomark _)) (sds_one (sd_ret (ed_addX (ed_sl (ed_var (pv 1)) od_none (od_some (ed_var (pv 2)))) (ed_sl (ed_var (pv 1)) (od_some (ed_addX (ed_var (pv 2)) ed_int)) od_none)))) sds_nil) (sds_cons (sd_if (td_cmp (op_eqD hr.units) opd_eq (ed_var (pv 4)) ed_int (nomark _)) (sds_one (sd_ret (ed_ct call_list_of cd_list (by rfl) T.z_list bt_list (ld_cons (ed_var (pv 1)) ld_nil)))) sds_nil) (sds_one (sd_ret (ed_addX (ed_addX (ed_sl (ed_var (pv 1)) od_none (od_some (ed_var (pv 2)))) (ed_tup (ld_cons (ed_var (pv 3)) ld_nil))) (ed_sl (ed_var (pv 1)) (od_some (ed_addX (ed_var (pv 2)) ed_int)) od_none))))))))))
theorem sc__law_bent_rows : FnScope ["_law_pool_here", "_law_rows", "_law_at"] ["_law_pool_here", "_law_rows"] (defScope s__law_bent_rows) := ⟨rfl, rfl, rfl, by decide +kernel, rfl, by decide +kernel, by decide +kernel⟩
set_option maxHeartbeats 0 in
theorem ok__law_bent_rows (T : Txt K mg P A B) : FnD P w K mg base 3 A._law_bent_rows B._law_bent_rows ["_law_pool_here", "_law_rows"] (phi__law_bent_rows A) := fn_d (body := d__law_bent_rows A) (N := ["_law_pool_here", "_law_rows", "_law_at"]) (k := 2) T.F__law_bent_rows sc__law_bent_rows fun cdv Ar outer s H E hr => by
  have nd := sc__law_bent_rows.nd
  exact (sds_cons (sd_if (td_w (wd_and (td_cmp op_gt opd_gt (ed_cb call_len cd_len (by rfl) T.z_len bt_len (ld_cons (ed_var (pv 1)) ld_nil)) ed_int (nomark _)) (wd_and1 (td_cmp (op_eqD hr.units) opd_eq (ed_call (ok__law_draw T) (hr.mono (by decide)) (takes_of rfl rfl rfl rfl) (by rfl) T.m__law_draw T.k__law_draw T.b__law_draw rfl (len_cons (len_cons len_nil)) (ld_cons (ed_var (pv 0)) (ld_cons ed_int ld_nil))) ed_int (nomark _))))) (sds_cons (sd_asg (pg_name (i := 2) nd rfl (by first | exact Or.inl rfl | exact Or.inr rfl)) (ed_call (ok__law_draw T) (hr.mono (by decide)) (takes_of rfl rfl rfl rfl) (by rfl) T.m__law_draw T.k__law_draw T.b__law_draw rfl (len_cons (len_cons len_nil)) (ld_cons (ed_var (pv 0)) (ld_cons (ed_cb call_len cd_len (by rfl) T.z_len bt_len (ld_cons (ed_var (pv 1)) ld_nil)) ld_nil)))) (sds_one (sd_ret (ed_addX (ed_addX (ed_sl (ed_var (pv 1)) od_none (od_some (ed_var (pv 2)))) (ed_tup (ld_cons (ed_call (ok__law_bent T) (hr.mono (by decide)) (takes_of rfl rfl rfl rfl) (by rfl) T.m__law_bent T.k__law_bent T.b__law_bent rfl (len_cons (len_cons len_nil)) (ld_cons (ed_var (pv 0)) (ld_cons (ed_ix (ed_var (pv 1)) (ed_var (pv 2))) ld_nil))) ld_nil))) (ed_sl (ed_var (pv 1)) (od_some (ed_addX (ed_var (pv 2)) ed_int)) od_none))))) sds_nil) (sds_one (sd_ret (ed_call (ok__law_bent T) (hr.mono (by decide)) (takes_of rfl rfl rfl rfl) (by rfl) T.m__law_bent T.k__law_bent T.b__law_bent rfl (len_cons (len_cons len_nil)) (ld_cons (ed_var (pv 0)) (ld_cons (ed_var (pv 1)) ld_nil))))))
theorem sc__law_odd : FnScope ["_law_pool_here", "_law_things"] ["_law_pool_here"] (defScope s__law_odd) := ⟨rfl, rfl, rfl, by decide +kernel, rfl, by decide +kernel, by decide +kernel⟩
set_option maxHeartbeats 0 in
theorem ok__law_odd (T : Txt K mg P A B) : FnD P w K mg base 7 A._law_odd B._law_odd ["_law_pool_here"] (phi__law_odd A) := fn_d (body := d__law_odd A) (N := ["_law_pool_here", "_law_things"]) (k := 6) T.F__law_odd sc__law_odd fun cdv Ar outer s H E hr => by
  have nd := sc__law_odd.nd
  exact (sds_cons (sd_asg (pg_name (i := 1) nd rfl (by first | exact Or.inl rfl | exact Or.inr rfl)) (ed_lst (ld_cons ed_non (ld_cons ed_bl (ld_cons ed_bl (ld_cons ed_int (ld_cons ed_str (ld_cons ed_str (ld_cons (ed_lst ld_nil) (ld_cons (ed_lst (ld_cons ed_int ld_nil)) (ld_cons ed_dct0 (ld_cons (ed_tup ld_nil) (ld_cons (ed_tup (ld_cons ed_int ld_nil)) (ld_cons (ed_tup (ld_cons (ed_tup ld_nil) ld_nil)) (ld_cons (ed_tup (ld_cons (ed_tup (ld_cons ed_int ld_nil)) ld_nil)) (ld_cons (ed_tup (ld_cons ed_bl ld_nil)) (ld_cons (ed_tup (ld_cons ed_str ld_nil)) (ld_cons (ed_tup (ld_cons ed_non ld_nil)) (ld_cons (ed_dct (kvs := [(Sum.inl 0, .int 1)]) (ds := [(Sum.inl 0, .int 1)]) (pps_cons pe_int pe_int pps_nil) rfl rfl (by decide) (by decide) (fun _ _ _ => rfl) (by decide) (fun _ => (.cons (.int _) .nil))) ld_nil))))))))))))))))))) (sds_cons (sd_asg (pg_name (i := 1) nd rfl (by first | exact Or.inl rfl | exact Or.inr rfl)) (ed_addX (ed_var (pv 1)) (ed_lst (ld_cons (ed_tup (ld_cons (ed_addX (ed_pow ed_int ed_int) ed_int) ld_nil)) (ld_cons (ed_tup (ld_cons (ed_sub (ed_neg (ed_pow ed_int ed_int)) ed_int) ld_nil)) (ld_cons (ed_call0 (ok__law_deep T) (hr.mono (by decide)) (takes_of rfl rfl rfl rfl) (by rfl) T.m__law_deep T.k__law_deep T.b__law_deep) (ld_cons (ed_frz (ed_make T.mk_Task T.kc_Task (ok_Task___init__ T) (hr.mono (by decide)) (takes_of rfl rfl rfl rfl) (by rfl) T.m_Task T.b_Task___init__ rfl (len_cons (len_cons (len_cons len_nil))) (ld_cons (ed_tup ld_nil) (ld_cons (ed_tup ld_nil) (ld_cons (ed_tup (ld_cons ed_int ld_nil)) ld_nil))))) (ld_cons (ed_tup (ld_cons (ed_frz (ed_make T.mk_Task T.kc_Task (ok_Task___init__ T) (hr.mono (by decide)) (takes_of rfl rfl rfl rfl) (by rfl) T.m_Task T.b_Task___init__ rfl (len_cons (len_cons (len_cons len_nil))) (ld_cons (ed_tup ld_nil) (ld_cons (ed_tup ld_nil) (ld_cons (ed_tup (ld_cons ed_int ld_nil)) ld_nil))))) ld_nil)) ld_nil)))))))) (sds_one (sd_ret (ed_ix (ed_var (pv 1)) (ed_call (ok__law_draw T) (hr.mono (by decide)) (takes_of rfl rfl rfl rfl) (by rfl) T.m__law_draw T.k__law_draw T.b__law_draw rfl (len_cons (len_cons len_nil)) (ld_cons (ed_var (pv 0)) (ld_cons (ed_cb call_len cd_len (by rfl) T.z_len bt_len (ld_cons (ed_var (pv 1)) ld_nil)) ld_nil))))))))
theorem sc_law : FnScope ["_law_script", "_law_pool_here", "_law_again", "_law_row", "_law_places", "_law_many", "_law_rows", "_law_amounts", "_law_worths", "_law_ways", "_law_things", "_law_word", "_law_k", "_law_turn"] ["_law_script"] (defScope s_law) := ⟨rfl, rfl, rfl, by decide +kernel, rfl, by decide +kernel, by decide +kernel⟩
set_option maxHeartbeats 0 in
theorem ok_law (T : Txt K mg P A B) : FnD P w K mg base 9 A.law B.law ["_law_script"] (phi_law A) := fn_d (body := d_law A) (N := ["_law_script", "_law_pool_here", "_law_again", "_law_row", "_law_places", "_law_many", "_law_rows", "_law_amounts", "_law_worths", "_law_ways", "_law_things", "_law_word", "_law_k", "_law_turn"]) (k := 8) T.F_law sc_law fun cdv Ar outer s H E hr => by
  have nd := sc_law.nd
  exact (sds_cons (sd_asg (pg_name (i := 1) nd rfl (by first | exact Or.inl rfl | exact Or.inr rfl)) (ed_call (ok__law_pool T) (hr.mono (by decide)) (takes_of rfl rfl rfl rfl) (by rfl) T.m__law_pool T.k__law_pool T.b__law_pool rfl (len_cons len_nil) (ld_cons (ed_var (pv 0)) ld_nil))) (sds_cons (sd_for (passes_of rfl) rfl (id_range1 (by rfl) T.z_range (ld_cons ed_int ld_nil)) (gd_name (pg_name (i := 2) nd rfl (by first | exact Or.inl rfl | exact Or.inr rfl))) (sds_cons (sd_asg (pg_name (i := 4) nd rfl (by first | exact Or.inl rfl | exact Or.inr rfl)) (ed_addX ed_int (ed_call (ok__law_draw T) (hr.mono (by decide)) (takes_of rfl rfl rfl rfl) (by rfl) T.m__law_draw T.k__law_draw T.b__law_draw rfl (len_cons (len_cons len_nil)) (ld_cons (ed_var (pv 1)) (ld_cons ed_int ld_nil))))) (sds_cons (sd_asg (pg_name (i := 5) nd rfl (by first | exact Or.inl rfl | exact Or.inr rfl)) (ed_call (ok__law_draw T) (hr.mono (by decide)) (takes_of rfl rfl rfl rfl) (by rfl) T.m__law_draw T.k__law_draw T.b__law_draw rfl (len_cons (len_cons len_nil)) (ld_cons (ed_var (pv 1)) (ld_cons ed_int ld_nil)))) (sds_cons (sd_if (td_cmp (op_eqD hr.units) opd_eq (ed_call (ok__law_draw T) (hr.mono (by decide)) (takes_of rfl rfl rfl rfl) (by rfl) T.m__law_draw T.k__law_draw T.b__law_draw rfl (len_cons (len_cons len_nil)) (ld_cons (ed_var (pv 1)) (ld_cons ed_int ld_nil))) ed_int (nomark _)) (sds_cons (sd_asg (pg_name (i := 4) nd rfl (by first | exact Or.inl rfl | exact Or.inr rfl)) ed_int) (sds_one (sd_asg (pg_name (i := 5) nd rfl (by first | exact Or.inl rfl | exact Or.inr rfl)) (ed_addX ed_int (ed_call (ok__law_draw T) (hr.mono (by decide)) (takes_of rfl rfl rfl rfl) (by rfl) T.m__law_draw T.k__law_draw T.b__law_draw rfl (len_cons (len_cons len_nil)) (ld_cons (ed_var (pv 1)) (ld_cons ed_int ld_nil))))))) sds_nil) (sds_cons (sd_asg (pg_name (i := 6) nd rfl (by first | exact Or.inl rfl | exact Or.inr rfl)) (ed_ct call_tuple_of cd_tuple (by rfl) T.z_tuple bt_tuple (ld_cons (ed_lc rfl nd (id_range1 (by rfl) T.z_range (ld_cons (ed_var (pv 5)) ld_nil)) (blkOk_by (own := [("_law_turn", 13)]) (by kernel_rfl)) (by decide) (fun _ _ _ _ _ => (gd_name (pg_name (i := 13) nd rfl (by first | exact Or.inl rfl | exact Or.inr rfl)))) (fun _ _ _ _ _ => ts_nil) (fun _ _ _ _ _ => (ed_ct call_tuple_of cd_tuple (by rfl) T.z_tuple bt_tuple (ld_cons (ed_lc rfl nd (id_range1 (by rfl) T.z_range (ld_cons (ed_var (pv 4)) ld_nil)) (blkOk_by (own := [("_law_k", 12)]) (by kernel_rfl)) (by decide) (fun _ _ _ _ _ => (gd_name (pg_name (i := 12) nd rfl (by first | exact Or.inl rfl | exact Or.inr rfl)))) (fun _ _ _ _ _ => ts_nil) (fun _ _ _ _ _ => (ed_call (ok__law_number T) (hr.mono (by decide)) takes_none5 (by rfl) T.m__law_number T.k__law_number T.b__law_number rfl (len_cons len_nil) (ld_cons (ed_var (pv 1)) ld_nil)))) ld_nil)))) ld_nil))) (sds_cons (sd_asg (pg_name (i := 7) nd rfl (by first | exact Or.inl rfl | exact Or.inr rfl)) (ed_ct call_tuple_of cd_tuple (by rfl) T.z_tuple bt_tuple (ld_cons (ed_lc rfl nd (id_seq (ed_var (pv 6))) (blkOk_by (own := [("_law_row", 3)]) (by kernel_rfl)) (by decide) (fun _ _ _ _ _ => (gd_name (pg_name (i := 3) nd rfl (by first | exact Or.inl rfl | exact Or.inr rfl)))) (fun _ _ _ _ _ => ts_nil) (fun _ _ _ _ _ => (ed_call (ok__law_number T) (hr.mono (by decide)) takes_none5 (by rfl) T.m__law_number T.k__law_number T.b__law_number rfl (len_cons len_nil) (ld_cons (ed_var (pv 1)) ld_nil)))) ld_nil))) (sds_cons (sd_asg (pg_name (i := 8) nd rfl (by first | exact Or.inl rfl | exact Or.inr rfl)) (ed_ct call_tuple_of cd_tuple (by rfl) T.z_tuple bt_tuple (ld_cons (ed_lc rfl nd (id_range1 (by rfl) T.z_range (ld_cons (ed_var (pv 4)) ld_nil)) (blkOk_by (own := [("_law_k", 12)]) (by kernel_rfl)) (by decide) (fun _ _ _ _ _ => (gd_name (pg_name (i := 12) nd rfl (by first | exact Or.inl rfl | exact Or.inr rfl)))) (fun _ _ _ _ _ => ts_nil) (fun _ _ _ _ _ => (ed_call (ok__law_number T) (hr.mono (by decide)) takes_none5 (by rfl) T.m__law_number T.k__law_number T.b__law_number rfl (len_cons len_nil) (ld_cons (ed_var (pv 1)) ld_nil)))) ld_nil))) (sds_cons (sd_if (td_w (wd_and (td_cmp op_lt opd_lt (ed_var (pv 5)) ed_int (nomark _)) (wd_and1 (td_not (td_val (ed_call (ok__law_is_right T) (hr.mono (by decide)) (takes_of rfl rfl rfl rfl) (by rfl) T.m__law_is_right T.k__law_is_right T.b__law_is_right rfl (len_cons (len_cons (len_cons len_nil))) (ld_cons (ed_var (pv 6)) (ld_cons (ed_var (pv 7)) (ld_cons (ed_var (pv 8)) ld_nil))))))))) (sds_one (sd_ret ed_bl)) sds_nil) (sds_cons (sd_lc (i := 9) rfl nd rfl rfl (sw_true rfl rfl rfl (by kernel_rfl)) (id_range1 (by rfl) T.z_range (ld_cons ed_int ld_nil)) (blkOk_by (own := [("_law_k", 12)]) (by kernel_rfl)) (by decide) (fun _ _ _ _ _ => (gd_name (pg_name (i := 12) nd rfl (by first | exact Or.inl rfl | exact Or.inr rfl)))) (fun _ _ _ _ _ => ts_nil) (fun _ _ _ _ _ => (ed_call (ok__law_draw T) (hr.mono (by decide)) takes_none5 (by rfl) T.m__law_draw T.k__law_draw T.b__law_draw rfl (len_cons (len_cons len_nil)) (ld_cons (ed_var (pv 1)) (ld_cons ed_int ld_nil))))) (sds_cons (sd_asg (pg_name (i := 10) nd rfl (by first | exact Or.inl rfl | exact Or.inr rfl)) (ed_cel (ld_cons (ed_var (pv 6)) (ld_cons (ed_var (pv 7)) (ld_cons (ed_var (pv 8)) ld_nil))))) (sds_cons (sd_if (td_cmp (op_eqD hr.units) opd_eq (ed_ix (ed_var (pv 9)) ed_int) ed_int (nomark _)) (sds_one (sd_put (ed_var (pv 10)) ed_int (ed_call (ok__law_bent_rows T) (hr.mono (by decide)) (takes_of rfl rfl rfl rfl) (by rfl) T.m__law_bent_rows T.k__law_bent_rows T.b__law_bent_rows rfl (len_cons (len_cons len_nil)) (ld_cons (ed_var (pv 1)) (ld_cons (ed_var (pv 6)) ld_nil))))) sds_nil) (sds_cons (sd_if (td_cmp (op_eqD hr.units) opd_eq (ed_ix (ed_var (pv 9)) ed_int) ed_int (nomark _)) (sds_one (sd_put (ed_var (pv 10)) ed_int (ed_call (ok__law_bent T) (hr.mono (by decide)) (takes_of rfl rfl rfl rfl) (by rfl) T.m__law_bent T.k__law_bent T.b__law_bent rfl (len_cons (len_cons len_nil)) (ld_cons (ed_var (pv 1)) (ld_cons (ed_var (pv 7)) ld_nil))))) sds_nil) (sds_cons (sd_if (td_cmp (op_eqD hr.units) opd_eq (ed_ix (ed_var (pv 9)) ed_int) ed_int (nomark _)) (sds_one (sd_put (ed_var (pv 10)) ed_int (ed_call (ok__law_bent T) (hr.mono (by decide)) (takes_of rfl rfl rfl rfl) (by rfl) T.m__law_bent T.k__law_bent T.b__law_bent rfl (len_cons (len_cons len_nil)) (ld_cons (ed_var (pv 1)) (ld_cons (ed_var (pv 8)) ld_nil))))) sds_nil) (sds_cons (sd_if (td_cmp (op_eqD hr.units) opd_eq (ed_call (ok__law_draw T) (hr.mono (by decide)) (takes_of rfl rfl rfl rfl) (by rfl) T.m__law_draw T.k__law_draw T.b__law_draw rfl (len_cons (len_cons len_nil)) (ld_cons (ed_var (pv 1)) (ld_cons ed_int ld_nil))) ed_int (nomark _)) (sds_one (sd_put (ed_var (pv 10)) (ed_call (ok__law_draw T) (hr.mono (by decide)) (takes_of rfl rfl rfl rfl) (by rfl) T.m__law_draw T.k__law_draw T.b__law_draw rfl (len_cons (len_cons len_nil)) (ld_cons (ed_var (pv 1)) (ld_cons ed_int ld_nil))) (ed_call (ok__law_odd T) (hr.mono (by decide)) (takes_of rfl rfl rfl rfl) (by rfl) T.m__law_odd T.k__law_odd T.b__law_odd rfl (len_cons len_nil) (ld_cons (ed_var (pv 1)) ld_nil)))) sds_nil) (sds_cons (sd_asg (pg_name (i := 11) nd rfl (by first | exact Or.inl rfl | exact Or.inr rfl)) (ed_call (ok__law_due T) (hr.mono (by decide)) (takes_of rfl rfl rfl rfl) (by rfl) T.m__law_due T.k__law_due T.b__law_due rfl (len_cons (len_cons (len_cons len_nil))) (ld_cons (ed_ix (ed_var (pv 10)) ed_int) (ld_cons (ed_ix (ed_var (pv 10)) ed_int) (ld_cons (ed_ix (ed_var (pv 10)) ed_int) ld_nil))))) (sds_cons (sd_if (td_w (wd_and (td_cmp (op_neD hr.units) opd_ne (ed_var (pv 11)) ed_str (nomark _)) (wd_and1 (td_cmp (op_neD hr.units) opd_ne (ed_ix (ed_call (ok__law_told T) (hr.mono (by decide)) (takes_of rfl rfl rfl rfl) (by rfl) T.m__law_told T.k__law_told T.b__law_told rfl (len_cons (len_cons (len_cons len_nil))) (ld_cons (ed_ix (ed_var (pv 10)) ed_int) (ld_cons (ed_ix (ed_var (pv 10)) ed_int) (ld_cons (ed_ix (ed_var (pv 10)) ed_int) ld_nil)))) ed_int) (ed_var (pv 11)) (nomark _))))) (sds_one (sd_ret ed_bl)) sds_nil) (sds_one (sd_if (td_w (wd_and (td_cmp (op_eqD hr.units) opd_eq (ed_var (pv 11)) ed_str (nomark _)) (wd_and (td_cmp op_lt opd_lt (ed_var (pv 5)) ed_int (nomark _)) (wd_and1 (td_not (td_val (ed_call (ok__law_is_right T) (hr.mono (by decide)) (takes_of rfl rfl rfl rfl) (by rfl) T.m__law_is_right T.k__law_is_right T.b__law_is_right rfl (len_cons (len_cons (len_cons len_nil))) (ld_cons (ed_ix (ed_var (pv 10)) ed_int) (ld_cons (ed_ix (ed_var (pv 10)) ed_int) (ld_cons (ed_ix (ed_var (pv 10)) ed_int) ld_nil)))))))))) (sds_one (sd_ret ed_bl)) sds_nil)))))))))))))))))) (sds_cons (sd_asg (pg_name (i := 3) nd rfl (by first | exact Or.inl rfl | exact Or.inr rfl)) (ed_mulX (ed_tup (ld_cons ed_int ld_nil)) ed_int)) (sds_cons (sd_if (td_w (wd_or (td_cmp (op_neD hr.units) opd_ne (ed_ix (ed_call (ok__law_told T) (hr.mono (by decide)) (takes_of rfl rfl rfl rfl) (by rfl) T.m__law_told T.k__law_told T.b__law_told rfl (len_cons (len_cons (len_cons len_nil))) (ld_cons (ed_tup ld_nil) (ld_cons (ed_tup ld_nil) (ld_cons (ed_addX (ed_var (pv 3)) (ed_tup (ld_cons ed_int ld_nil))) ld_nil)))) ed_int) ed_str (nomark _)) (wd_or1 (td_cmp (op_neD hr.units) opd_ne (ed_ix (ed_call (ok__law_told T) (hr.mono (by decide)) (takes_of rfl rfl rfl rfl) (by rfl) T.m__law_told T.k__law_told T.b__law_told rfl (len_cons (len_cons (len_cons len_nil))) (ld_cons (ed_mulX (ed_tup (ld_cons (ed_var (pv 3)) ld_nil)) ed_int) (ld_cons (ed_mulX (ed_tup (ld_cons ed_int ld_nil)) ed_int) (ld_cons (ed_var (pv 3)) ld_nil)))) ed_int) ed_str (nomark _))))) (sds_one (sd_ret ed_bl)) sds_nil) (sds_one (sd_ret (ed_cmp (op_eqD hr.units) opd_eq (ed_ix (ed_call (ok__law_told T) (hr.mono (by decide)) (takes_of rfl rfl rfl rfl) (by rfl) T.m__law_told T.k__law_told T.b__law_told rfl (len_cons (len_cons (len_cons len_nil))) (ld_cons (ed_mulX (ed_tup (ld_cons (ed_var (pv 3)) ld_nil)) ed_int) (ld_cons (ed_mulX (ed_tup (ld_cons ed_int ld_nil)) ed_int) (ld_cons (ed_var (pv 3)) ld_nil)))) ed_int) ed_str (nomark _))))))))
end
set_option maxHeartbeats 0 in
theorem all_mk {P : Program} {w : World} {K : PySem.W.Frag} {h : Heap} {mg : Str → Option Value} {fa : Addr} (X : K.In h) (G : h.Ns mainGlobals mg) (hfa : mg "law" = some (.ref fa))
    {a__law_pool a__law_draw a__law_number a_is_integer a_are_integers a_are_within a_are_numbers a_Task___init__ a__law_told a__law_is_int a__law_are_ints a__law_are_numbers a__law_due a_Task___eq__ a__law_is_right a__law_deep a__law_bent a__law_bent_rows a__law_odd a_law a_Task a_TurnError a_BadTask a_BadTask_init a_BadTask_cc : Addr} {od__law_pool an__law_pool : Option Addr} {sl__law_pool : Array (Option Value)} {oc__law_pool kV__law_pool dc__law_pool pm__law_pool cd__law_pool ct__law_pool : Value} {od__law_draw an__law_draw : Option Addr} {sl__law_draw : Array (Option Value)} {oc__law_draw kV__law_draw dc__law_draw pm__law_draw cd__law_draw ct__law_draw : Value} {od__law_number an__law_number : Option Addr} {sl__law_number : Array (Option Value)} {oc__law_number kV__law_number dc__law_number pm__law_number cd__law_number ct__law_number : Value} {od_is_integer an_is_integer : Option Addr} {sl_is_integer : Array (Option Value)} {oc_is_integer kV_is_integer dc_is_integer pm_is_integer cd_is_integer ct_is_integer : Value} {od_are_integers an_are_integers : Option Addr} {sl_are_integers : Array (Option Value)} {oc_are_integers kV_are_integers dc_are_integers pm_are_integers cd_are_integers ct_are_integers : Value} {od_are_within an_are_within : Option Addr} {sl_are_within : Array (Option Value)} {oc_are_within kV_are_within dc_are_within pm_are_within cd_are_within ct_are_within : Value} {od_are_numbers an_are_numbers : Option Addr} {sl_are_numbers : Array (Option Value)} {oc_are_numbers kV_are_numbers dc_are_numbers pm_are_numbers cd_are_numbers ct_are_numbers : Value} {od_Task___init__ an_Task___init__ : Option Addr} {sl_Task___init__ : Array (Option Value)} {oc_Task___init__ kV_Task___init__ dc_Task___init__ pm_Task___init__ cd_Task___init__ ct_Task___init__ : Value} {od__law_told an__law_told : Option Addr} {sl__law_told : Array (Option Value)} {oc__law_told kV__law_told dc__law_told pm__law_told cd__law_told ct__law_told : Value} {od__law_is_int an__law_is_int : Option Addr} {sl__law_is_int : Array (Option Value)} {oc__law_is_int kV__law_is_int dc__law_is_int pm__law_is_int cd__law_is_int ct__law_is_int : Value} {od__law_are_ints an__law_are_ints : Option Addr} {sl__law_are_ints : Array (Option Value)} {oc__law_are_ints kV__law_are_ints dc__law_are_ints pm__law_are_ints cd__law_are_ints ct__law_are_ints : Value} {od__law_are_numbers an__law_are_numbers : Option Addr} {sl__law_are_numbers : Array (Option Value)} {oc__law_are_numbers kV__law_are_numbers dc__law_are_numbers pm__law_are_numbers cd__law_are_numbers ct__law_are_numbers : Value} {od__law_due an__law_due : Option Addr} {sl__law_due : Array (Option Value)} {oc__law_due kV__law_due dc__law_due pm__law_due cd__law_due ct__law_due : Value} {od_Task___eq__ an_Task___eq__ : Option Addr} {sl_Task___eq__ : Array (Option Value)} {oc_Task___eq__ kV_Task___eq__ dc_Task___eq__ pm_Task___eq__ cd_Task___eq__ ct_Task___eq__ : Value} {od__law_is_right an__law_is_right : Option Addr} {sl__law_is_right : Array (Option Value)} {oc__law_is_right kV__law_is_right dc__law_is_right pm__law_is_right cd__law_is_right ct__law_is_right : Value} {od__law_deep an__law_deep : Option Addr} {sl__law_deep : Array (Option Value)} {oc__law_deep kV__law_deep dc__law_deep pm__law_deep cd__law_deep ct__law_deep : Value} {od__law_bent an__law_bent : Option Addr} {sl__law_bent : Array (Option Value)} {oc__law_bent kV__law_bent dc__law_bent pm__law_bent cd__law_bent ct__law_bent : Value} {od__law_bent_rows an__law_bent_rows : Option Addr} {sl__law_bent_rows : Array (Option Value)} {oc__law_bent_rows kV__law_bent_rows dc__law_bent_rows pm__law_bent_rows cd__law_bent_rows ct__law_bent_rows : Value} {od__law_odd an__law_odd : Option Addr} {sl__law_odd : Array (Option Value)} {oc__law_odd kV__law_odd dc__law_odd pm__law_odd cd__law_odd ct__law_odd : Value} {od_law an_law : Option Addr} {sl_law : Array (Option Value)} {oc_law kV_law dc_law pm_law cd_law ct_law : Value} {tk_MOST_NUMBER : Tok} {tk_MOST_PLACES : Tok} {tk_MOST_ROWS : Tok} {xnm_BadTask xq_BadTask : Str} {xN_BadTask : Addr} {xbs_BadTask : List Value} {xsn_BadTask : List Str} {xsub_BadTask : List Value} {xab_BadTask : Bool} {xcol_BadTask : Option Bool} {xdd_BadTask : Option Addr} {x0_BadTask x1_BadTask x2_BadTask x3_BadTask x5_BadTask : Option Value} {yoc_BadTask ydoc_BadTask ypm_BadTask yct_BadTask yccl_BadTask : Value} {yod_BadTask yan_BadTask ycdd_BadTask : Option Addr} {ycda_BadTask : Addr} {yosl_BadTask yccs_BadTask : Array (Option Value)} {yvs_BadTask : Array Value} {ycl_BadTask : Value} {ycld_BadTask : Option Addr} {ycsl_BadTask : Array (Option Value)} {yfile_BadTask : Str} {ytf_BadTask : Tok}
    (ha_Task : PySem.W.nsIn K mainGlobals "Task" = some (some (.ref a_Task)))
    (ha_TurnError : PySem.W.nsIn K mainGlobals "TurnError" = some (some (.ref a_TurnError)))
    (ha_BadTask : PySem.W.nsIn K mainGlobals "BadTask" = some (some (.ref a_BadTask)))
    (ha__law_pool : PySem.W.nsIn K mainGlobals "_law_pool" = some (some (.ref a__law_pool)))
    (hl__law_pool : K.lookup a__law_pool = some ⟨oc__law_pool, od__law_pool, .func (PySem.W.fnOf "_law_pool" "_law_pool" (defArgs s__law_pool) (defBody s__law_pool) (defScope s__law_pool) .none kV__law_pool dc__law_pool pm__law_pool an__law_pool cd__law_pool ct__law_pool), sl__law_pool⟩)
    (hc__law_pool : PySem.W.codeIn K cd__law_pool "_law_pool" = true)
    (hk__law_pool : PySem.W.keepIn K (.ref a__law_pool) = true)
    (ha__law_draw : PySem.W.nsIn K mainGlobals "_law_draw" = some (some (.ref a__law_draw)))
    (hl__law_draw : K.lookup a__law_draw = some ⟨oc__law_draw, od__law_draw, .func (PySem.W.fnOf "_law_draw" "_law_draw" (defArgs s__law_draw) (defBody s__law_draw) (defScope s__law_draw) .none kV__law_draw dc__law_draw pm__law_draw an__law_draw cd__law_draw ct__law_draw), sl__law_draw⟩)
    (hc__law_draw : PySem.W.codeIn K cd__law_draw "_law_draw" = true)
    (hk__law_draw : PySem.W.keepIn K (.ref a__law_draw) = true)
    (ha__law_number : PySem.W.nsIn K mainGlobals "_law_number" = some (some (.ref a__law_number)))
    (hl__law_number : K.lookup a__law_number = some ⟨oc__law_number, od__law_number, .func (PySem.W.fnOf "_law_number" "_law_number" (defArgs s__law_number) (defBody s__law_number) (defScope s__law_number) .none kV__law_number dc__law_number pm__law_number an__law_number cd__law_number ct__law_number), sl__law_number⟩)
    (hc__law_number : PySem.W.codeIn K cd__law_number "_law_number" = true)
    (hk__law_number : PySem.W.keepIn K (.ref a__law_number) = true)
    (ha_is_integer : PySem.W.nsIn K mainGlobals "is_integer" = some (some (.ref a_is_integer)))
    (hl_is_integer : K.lookup a_is_integer = some ⟨oc_is_integer, od_is_integer, .func (PySem.W.fnOf "is_integer" "is_integer" (defArgs s_is_integer) (defBody s_is_integer) (defScope s_is_integer) .none kV_is_integer dc_is_integer pm_is_integer an_is_integer cd_is_integer ct_is_integer), sl_is_integer⟩)
    (hc_is_integer : PySem.W.codeIn K cd_is_integer "is_integer" = true)
    (hk_is_integer : PySem.W.keepIn K (.ref a_is_integer) = true)
    (ha_are_integers : PySem.W.nsIn K mainGlobals "are_integers" = some (some (.ref a_are_integers)))
    (hl_are_integers : K.lookup a_are_integers = some ⟨oc_are_integers, od_are_integers, .func (PySem.W.fnOf "are_integers" "are_integers" (defArgs s_are_integers) (defBody s_are_integers) (defScope s_are_integers) .none kV_are_integers dc_are_integers pm_are_integers an_are_integers cd_are_integers ct_are_integers), sl_are_integers⟩)
    (hc_are_integers : PySem.W.codeIn K cd_are_integers "are_integers" = true)
    (hk_are_integers : PySem.W.keepIn K (.ref a_are_integers) = true)
    (ha_are_within : PySem.W.nsIn K mainGlobals "are_within" = some (some (.ref a_are_within)))
    (hl_are_within : K.lookup a_are_within = some ⟨oc_are_within, od_are_within, .func (PySem.W.fnOf "are_within" "are_within" (defArgs s_are_within) (defBody s_are_within) (defScope s_are_within) .none kV_are_within dc_are_within pm_are_within an_are_within cd_are_within ct_are_within), sl_are_within⟩)
    (hc_are_within : PySem.W.codeIn K cd_are_within "are_within" = true)
    (hk_are_within : PySem.W.keepIn K (.ref a_are_within) = true)
    (ha_are_numbers : PySem.W.nsIn K mainGlobals "are_numbers" = some (some (.ref a_are_numbers)))
    (hl_are_numbers : K.lookup a_are_numbers = some ⟨oc_are_numbers, od_are_numbers, .func (PySem.W.fnOf "are_numbers" "are_numbers" (defArgs s_are_numbers) (defBody s_are_numbers) (defScope s_are_numbers) .none kV_are_numbers dc_are_numbers pm_are_numbers an_are_numbers cd_are_numbers ct_are_numbers), sl_are_numbers⟩)
    (hc_are_numbers : PySem.W.codeIn K cd_are_numbers "are_numbers" = true)
    (hk_are_numbers : PySem.W.keepIn K (.ref a_are_numbers) = true)
    (ha_Task___init__ : PySem.W.findIn K (.ref a_Task) "__init__" = some (some (.ref a_Task___init__)))
    (hl_Task___init__ : K.lookup a_Task___init__ = some ⟨oc_Task___init__, od_Task___init__, .func (PySem.W.fnOf "__init__" "Task.__init__" (defArgs s_Task___init__) (defBody s_Task___init__) (defScope s_Task___init__) .none kV_Task___init__ dc_Task___init__ pm_Task___init__ an_Task___init__ cd_Task___init__ ct_Task___init__), sl_Task___init__⟩)
    (hc_Task___init__ : PySem.W.codeIn K cd_Task___init__ "Task.__init__" = true)
    (hk_Task___init__ : PySem.W.keepIn K (.ref a_Task___init__) = true)
    (hf_Task___init__ : PySem.W.isFn K (.ref a_Task___init__) = true)
    (ha__law_told : PySem.W.nsIn K mainGlobals "_law_told" = some (some (.ref a__law_told)))
    (hl__law_told : K.lookup a__law_told = some ⟨oc__law_told, od__law_told, .func (PySem.W.fnOf "_law_told" "_law_told" (defArgs s__law_told) (defBody s__law_told) (defScope s__law_told) .none kV__law_told dc__law_told pm__law_told an__law_told cd__law_told ct__law_told), sl__law_told⟩)
    (hc__law_told : PySem.W.codeIn K cd__law_told "_law_told" = true)
    (hk__law_told : PySem.W.keepIn K (.ref a__law_told) = true)
    (ha__law_is_int : PySem.W.nsIn K mainGlobals "_law_is_int" = some (some (.ref a__law_is_int)))
    (hl__law_is_int : K.lookup a__law_is_int = some ⟨oc__law_is_int, od__law_is_int, .func (PySem.W.fnOf "_law_is_int" "_law_is_int" (defArgs s__law_is_int) (defBody s__law_is_int) (defScope s__law_is_int) .none kV__law_is_int dc__law_is_int pm__law_is_int an__law_is_int cd__law_is_int ct__law_is_int), sl__law_is_int⟩)
    (hc__law_is_int : PySem.W.codeIn K cd__law_is_int "_law_is_int" = true)
    (hk__law_is_int : PySem.W.keepIn K (.ref a__law_is_int) = true)
    (ha__law_are_ints : PySem.W.nsIn K mainGlobals "_law_are_ints" = some (some (.ref a__law_are_ints)))
    (hl__law_are_ints : K.lookup a__law_are_ints = some ⟨oc__law_are_ints, od__law_are_ints, .func (PySem.W.fnOf "_law_are_ints" "_law_are_ints" (defArgs s__law_are_ints) (defBody s__law_are_ints) (defScope s__law_are_ints) .none kV__law_are_ints dc__law_are_ints pm__law_are_ints an__law_are_ints cd__law_are_ints ct__law_are_ints), sl__law_are_ints⟩)
    (hc__law_are_ints : PySem.W.codeIn K cd__law_are_ints "_law_are_ints" = true)
    (hk__law_are_ints : PySem.W.keepIn K (.ref a__law_are_ints) = true)
    (ha__law_are_numbers : PySem.W.nsIn K mainGlobals "_law_are_numbers" = some (some (.ref a__law_are_numbers)))
    (hl__law_are_numbers : K.lookup a__law_are_numbers = some ⟨oc__law_are_numbers, od__law_are_numbers, .func (PySem.W.fnOf "_law_are_numbers" "_law_are_numbers" (defArgs s__law_are_numbers) (defBody s__law_are_numbers) (defScope s__law_are_numbers) .none kV__law_are_numbers dc__law_are_numbers pm__law_are_numbers an__law_are_numbers cd__law_are_numbers ct__law_are_numbers), sl__law_are_numbers⟩)
    (hc__law_are_numbers : PySem.W.codeIn K cd__law_are_numbers "_law_are_numbers" = true)
    (hk__law_are_numbers : PySem.W.keepIn K (.ref a__law_are_numbers) = true)
    (ha__law_due : PySem.W.nsIn K mainGlobals "_law_due" = some (some (.ref a__law_due)))
    (hl__law_due : K.lookup a__law_due = some ⟨oc__law_due, od__law_due, .func (PySem.W.fnOf "_law_due" "_law_due" (defArgs s__law_due) (defBody s__law_due) (defScope s__law_due) .none kV__law_due dc__law_due pm__law_due an__law_due cd__law_due ct__law_due), sl__law_due⟩)
    (hc__law_due : PySem.W.codeIn K cd__law_due "_law_due" = true)
    (hk__law_due : PySem.W.keepIn K (.ref a__law_due) = true)
    (ha_Task___eq__ : PySem.W.findIn K (.ref a_Task) "__eq__" = some (some (.ref a_Task___eq__)))
    (hl_Task___eq__ : K.lookup a_Task___eq__ = some ⟨oc_Task___eq__, od_Task___eq__, .func (PySem.W.fnOf "__eq__" "Task.__eq__" (defArgs s_Task___eq__) (defBody s_Task___eq__) (defScope s_Task___eq__) .none kV_Task___eq__ dc_Task___eq__ pm_Task___eq__ an_Task___eq__ cd_Task___eq__ ct_Task___eq__), sl_Task___eq__⟩)
    (hc_Task___eq__ : PySem.W.codeIn K cd_Task___eq__ "Task.__eq__" = true)
    (hk_Task___eq__ : PySem.W.keepIn K (.ref a_Task___eq__) = true)
    (hf_Task___eq__ : PySem.W.isFn K (.ref a_Task___eq__) = true)
    (ha__law_is_right : PySem.W.nsIn K mainGlobals "_law_is_right" = some (some (.ref a__law_is_right)))
    (hl__law_is_right : K.lookup a__law_is_right = some ⟨oc__law_is_right, od__law_is_right, .func (PySem.W.fnOf "_law_is_right" "_law_is_right" (defArgs s__law_is_right) (defBody s__law_is_right) (defScope s__law_is_right) .none kV__law_is_right dc__law_is_right pm__law_is_right an__law_is_right cd__law_is_right ct__law_is_right), sl__law_is_right⟩)
    (hc__law_is_right : PySem.W.codeIn K cd__law_is_right "_law_is_right" = true)
    (hk__law_is_right : PySem.W.keepIn K (.ref a__law_is_right) = true)
    (ha__law_deep : PySem.W.nsIn K mainGlobals "_law_deep" = some (some (.ref a__law_deep)))
    (hl__law_deep : K.lookup a__law_deep = some ⟨oc__law_deep, od__law_deep, .func (PySem.W.fnOf "_law_deep" "_law_deep" (defArgs s__law_deep) (defBody s__law_deep) (defScope s__law_deep) .none kV__law_deep dc__law_deep pm__law_deep an__law_deep cd__law_deep ct__law_deep), sl__law_deep⟩)
    (hc__law_deep : PySem.W.codeIn K cd__law_deep "_law_deep" = true)
    (hk__law_deep : PySem.W.keepIn K (.ref a__law_deep) = true)
    (ha__law_bent : PySem.W.nsIn K mainGlobals "_law_bent" = some (some (.ref a__law_bent)))
    (hl__law_bent : K.lookup a__law_bent = some ⟨oc__law_bent, od__law_bent, .func (PySem.W.fnOf "_law_bent" "_law_bent" (defArgs s__law_bent) (defBody s__law_bent) (defScope s__law_bent) .none kV__law_bent dc__law_bent pm__law_bent an__law_bent cd__law_bent ct__law_bent), sl__law_bent⟩)
    (hc__law_bent : PySem.W.codeIn K cd__law_bent "_law_bent" = true)
    (hk__law_bent : PySem.W.keepIn K (.ref a__law_bent) = true)
    (ha__law_bent_rows : PySem.W.nsIn K mainGlobals "_law_bent_rows" = some (some (.ref a__law_bent_rows)))
    (hl__law_bent_rows : K.lookup a__law_bent_rows = some ⟨oc__law_bent_rows, od__law_bent_rows, .func (PySem.W.fnOf "_law_bent_rows" "_law_bent_rows" (defArgs s__law_bent_rows) (defBody s__law_bent_rows) (defScope s__law_bent_rows) .none kV__law_bent_rows dc__law_bent_rows pm__law_bent_rows an__law_bent_rows cd__law_bent_rows ct__law_bent_rows), sl__law_bent_rows⟩)
    (hc__law_bent_rows : PySem.W.codeIn K cd__law_bent_rows "_law_bent_rows" = true)
    (hk__law_bent_rows : PySem.W.keepIn K (.ref a__law_bent_rows) = true)
    (ha__law_odd : PySem.W.nsIn K mainGlobals "_law_odd" = some (some (.ref a__law_odd)))
    (hl__law_odd : K.lookup a__law_odd = some ⟨oc__law_odd, od__law_odd, .func (PySem.W.fnOf "_law_odd" "_law_odd" (defArgs s__law_odd) (defBody s__law_odd) (defScope s__law_odd) .none kV__law_odd dc__law_odd pm__law_odd an__law_odd cd__law_odd ct__law_odd), sl__law_odd⟩)
    (hc__law_odd : PySem.W.codeIn K cd__law_odd "_law_odd" = true)
    (hk__law_odd : PySem.W.keepIn K (.ref a__law_odd) = true)
    (ha_law : PySem.W.nsIn K mainGlobals "law" = some (some (.ref a_law)))
    (hl_law : K.lookup a_law = some ⟨oc_law, od_law, .func (PySem.W.fnOf "law" "law" (defArgs s_law) (defBody s_law) (defScope s_law) .none kV_law dc_law pm_law an_law cd_law ct_law), sl_law⟩)
    (hc_law : PySem.W.codeIn K cd_law "law" = true)
    (hk_law : PySem.W.keepIn K (.ref a_law) = true)
    (hp1_Task : PySem.W.plainGet K a_Task Str.empty = true)
    (hp2_Task : PySem.W.hasDictIn K a_Task = true)
    (hp3_Task : PySem.W.plainOver K a_Task = true)
    (hp4_Task : PySem.W.findIn K (.ref a_Task) "__setattr__" = some (some (.builtin "object.__setattr__")))
    (hp5_Task : PySem.W.findIn K (.ref a_Task) "__class__" = some (some (.builtin "object.__class__")))
    (hp7_Task : (PySem.W.clsIn K a_Task).map (·.mro) = some [.ref a_Task, .type "object"])
    (hp8_Task : PySem.W.typeIn K (.ref a_Task) = some (.type "type"))
    (hm_Task : PySem.W.makesIn K a_Task = true)
    (hq_Task : PySem.W.keepIn K (.ref a_Task) = true)
    (hn_Task_amounts : PySem.W.findIn K (.ref a_Task) "amounts" = some none)
    (hn_Task_rows : PySem.W.findIn K (.ref a_Task) "rows" = some none)
    (hn_Task_worths : PySem.W.findIn K (.ref a_Task) "worths" = some none)
    (hcs : PySem.W.specialIn K (.builtin "object.__class__") "__get__" = some (some (.builtin "getset_descriptor.__get__")))
    (hct : PySem.W.takesIn K (.builtin "object.__class__") = some true)
    (hv_MOST_NUMBER : PySem.W.nsIn K mainGlobals "MOST_NUMBER" = some (some (.int 10000000000000000000000000000000000000000 tk_MOST_NUMBER)))
    (hv_MOST_PLACES : PySem.W.nsIn K mainGlobals "MOST_PLACES" = some (some (.int 100 tk_MOST_PLACES)))
    (hv_MOST_ROWS : PySem.W.nsIn K mainGlobals "MOST_ROWS" = some (some (.int 40 tk_MOST_ROWS)))
    (hz_ValueError : PySem.W.nsIn K mainGlobals "ValueError" = some none)
    (hz_abs : PySem.W.nsIn K mainGlobals "abs" = some none)
    (hz_all : PySem.W.nsIn K mainGlobals "all" = some none)
    (hz_bool : PySem.W.nsIn K mainGlobals "bool" = some none)
    (hz_int : PySem.W.nsIn K mainGlobals "int" = some none)
    (hz_isinstance : PySem.W.nsIn K mainGlobals "isinstance" = some none)
    (hz_len : PySem.W.nsIn K mainGlobals "len" = some none)
    (hz_list : PySem.W.nsIn K mainGlobals "list" = some none)
    (hz_range : PySem.W.nsIn K mainGlobals "range" = some none)
    (hz_sum : PySem.W.nsIn K mainGlobals "sum" = some none)
    (hz_tuple : PySem.W.nsIn K mainGlobals "tuple" = some none)
    (xa_BadTask : K.lookup a_BadTask = some (excClassObj xnm_BadTask xq_BadTask a_BadTask xN_BadTask xbs_BadTask [.ref a_TurnError, .type "ValueError", .type "Exception", .type "BaseException", .type "object"] true xsn_BadTask xsub_BadTask xab_BadTask xcol_BadTask xdd_BadTask x0_BadTask x1_BadTask x2_BadTask x3_BadTask x5_BadTask "ValueError.__new__"))
    (xb_BadTask : PySem.W.findIn K (.ref a_BadTask) "__setattr__" = some (some (.builtin "object.__setattr__")))
    (xc_BadTask : PySem.W.findIn K (.ref a_BadTask) "__init__" = some (some (.ref a_BadTask_init)))
    (xd_BadTask : PySem.W.typeIn K (.ref a_BadTask_init) = some (.type "function"))
    (xe_BadTask : PySem.W.subIn K (.ref a_BadTask) (.type "ValueError") = some true)
    (xf_BadTask : K.lookup a_BadTask_init = some ⟨yoc_BadTask, yod_BadTask, .func (PySem.W.ksFn "__init__" "BadTask.__init__" (PySem.DLX.iA1 "part" ⟨6, 17, 6, 21⟩ ⟨6, 23, 6, 27⟩) [PySem.DLX.iE "no task" 0 ⟨7, 8, 7, 13⟩ ⟨7, 8, 7, 15⟩ ⟨7, 8, 7, 24⟩ ⟨7, 25, 7, 34⟩ ⟨7, 8, 7, 35⟩ ⟨7, 8, 7, 35⟩, PySem.DLX.iF "part" ⟨8, 8, 8, 12⟩ ⟨8, 8, 8, 17⟩ ⟨8, 20, 8, 24⟩ ⟨8, 8, 8, 24⟩] (PySem.DLX.iS1 "part") .none .none ydoc_BadTask ypm_BadTask yan_BadTask (.ref ycda_BadTask) yct_BadTask a_BadTask_cc), yosl_BadTask⟩)
    (xg_BadTask : K.lookup a_BadTask_cc = some ⟨ycl_BadTask, ycld_BadTask, .cell (some (.ref a_BadTask)), ycsl_BadTask⟩)
    (xh_BadTask : PySem.W.mroIn K a_BadTask (.ref a_BadTask) = some true)
    (xi_BadTask : PySem.W.ks_superIn K a_BadTask a_BadTask "__init__" = some (some (.builtin "ValueError.__init__")))
    (xj_BadTask : PySem.W.codeIn K (.ref ycda_BadTask) "BadTask.__init__" = true)
    (xk_BadTask : K.lookup ycda_BadTask = some ⟨yccl_BadTask, ycdd_BadTask, .fields yvs_BadTask, yccs_BadTask⟩)
    (xl_BadTask : yvs_BadTask[2]? = some (.str yfile_BadTask ytf_BadTask))
    (xm_BadTask : ((P.main.file : Str) == yfile_BadTask) = true)
    (xo_BadTask : PySem.W.keepIn K (.ref a_BadTask) = true)
    (xp_BadTask : PySem.W.subIn K (.ref a_BadTask) (.type "BaseException") = some true)
    (xq_BadTask : PySem.W.typeIn K (.ref a_BadTask) = some (.type "type"))
    (xr_BadTask : PySem.W.findIn K (.ref a_BadTask) "__getattribute__" = some (some (.builtin "BaseException.__getattribute__")))
    (xs_BadTask : PySem.W.findIn K (.ref a_BadTask) "__getattr__" = some none)
    (xt_BadTask : PySem.W.hasDictIn K a_BadTask = true)
    (xu_BadTask : PySem.W.findIn K (.ref a_BadTask) "__class__" = some (some (.builtin "object.__class__")))
    (xv_BadTask : PySem.W.mroIn K a_BadTask (.type "object") = some true)
    (xw_BadTask : PySem.W.findIn K (.ref a_BadTask) "part" = some none)
    (xsup : PySem.W.nsIn K mainGlobals "super" = some none)
    (xtp : PySem.W.nsIn K cStatics "thirdparty.any" = some none)
    (xtop : (P.main.scope.names.lookup ("super" : Str)).isSome = false)
    (ym_BadTask_TurnError : PySem.W.exmOne K (.ref a_BadTask) (.ref a_TurnError) = some true)
    (yk_BadTask_BadTask : PySem.W.kitOne K (.ref a_BadTask) (.ref a_BadTask) = some true)
    (yk_BadTask_ValueError : PySem.W.kitOne K (.ref a_BadTask) (.type "ValueError") = some true)

    : ∃ fd : FuncData, (∀ (s : Shared) (v : Value), BindsTo s fd ⟨[v], []⟩ [("_law_script", v)]) ∧ ∀ base : Heap, K.In base → base.Ns mainGlobals mg → FnD P w K mg base 9 fa fd ["_law_script"] (phi_law ({ _law_pool := a__law_pool, _law_draw := a__law_draw, _law_number := a__law_number, is_integer := a_is_integer, are_integers := a_are_integers, are_within := a_are_within, are_numbers := a_are_numbers, Task___init__ := a_Task___init__, _law_told := a__law_told, _law_is_int := a__law_is_int, _law_are_ints := a__law_are_ints, _law_are_numbers := a__law_are_numbers, _law_due := a__law_due, Task___eq__ := a_Task___eq__, _law_is_right := a__law_is_right, _law_deep := a__law_deep, _law_bent := a__law_bent, _law_bent_rows := a__law_bent_rows, _law_odd := a__law_odd, law := a_law, Task := a_Task, TurnError := a_TurnError, BadTask := a_BadTask, BadTask_init := a_BadTask_init, BadTask_cc := a_BadTask_cc } : Ad)) := by
  have e := hfa.symm.trans (PySem.W.mg_of X G ha_law)
  cases e
  have F__law_pool := fun_mk (st := s__law_pool) hl__law_pool hc__law_pool hk__law_pool
  have b__law_pool := F__law_pool.binds (ps := ["_law_script"]) fun _ _ _ _ _ _ us hl => match us, hl with | [_], _ => rfl
  have F__law_draw := fun_mk (st := s__law_draw) hl__law_draw hc__law_draw hk__law_draw
  have b__law_draw := F__law_draw.binds (ps := ["_law_pool_here", "_law_many"]) fun _ _ _ _ _ _ us hl => match us, hl with | [_, _], _ => rfl
  have F__law_number := fun_mk (st := s__law_number) hl__law_number hc__law_number hk__law_number
  have b__law_number := F__law_number.binds (ps := ["_law_pool_here"]) fun _ _ _ _ _ _ us hl => match us, hl with | [_], _ => rfl
  have F_is_integer := fun_mk (st := s_is_integer) hl_is_integer hc_is_integer hk_is_integer
  have b_is_integer := F_is_integer.binds (ps := ["thing"]) fun _ _ _ _ _ _ us hl => match us, hl with | [_], _ => rfl
  have F_are_integers := fun_mk (st := s_are_integers) hl_are_integers hc_are_integers hk_are_integers
  have b_are_integers := F_are_integers.binds (ps := ["thing", "many"]) fun _ _ _ _ _ _ us hl => match us, hl with | [_, _], _ => rfl
  have F_are_within := fun_mk (st := s_are_within) hl_are_within hc_are_within hk_are_within
  have b_are_within := F_are_within.binds (ps := ["thing", "many", "least", "most"]) fun _ _ _ _ _ _ us hl => match us, hl with | [_, _, _, _], _ => rfl
  have F_are_numbers := fun_mk (st := s_are_numbers) hl_are_numbers hc_are_numbers hk_are_numbers
  have b_are_numbers := F_are_numbers.binds (ps := ["thing", "many"]) fun _ _ _ _ _ _ us hl => match us, hl with | [_, _], _ => rfl
  have F_Task___init__ := fun_mk (st := s_Task___init__) hl_Task___init__ hc_Task___init__ hk_Task___init__
  have b_Task___init__ := F_Task___init__.binds (ps := ["self", "rows", "amounts", "worths"]) fun _ _ _ _ _ _ us hl => match us, hl with | [_, _, _, _], _ => rfl
  have F__law_told := fun_mk (st := s__law_told) hl__law_told hc__law_told hk__law_told
  have b__law_told := F__law_told.binds (ps := ["_law_rows", "_law_amounts", "_law_worths"]) fun _ _ _ _ _ _ us hl => match us, hl with | [_, _, _], _ => rfl
  have F__law_is_int := fun_mk (st := s__law_is_int) hl__law_is_int hc__law_is_int hk__law_is_int
  have b__law_is_int := F__law_is_int.binds (ps := ["_law_thing"]) fun _ _ _ _ _ _ us hl => match us, hl with | [_], _ => rfl
  have F__law_are_ints := fun_mk (st := s__law_are_ints) hl__law_are_ints hc__law_are_ints hk__law_are_ints
  have b__law_are_ints := F__law_are_ints.binds (ps := ["_law_things", "_law_many"]) fun _ _ _ _ _ _ us hl => match us, hl with | [_, _], _ => rfl
  have F__law_are_numbers := fun_mk (st := s__law_are_numbers) hl__law_are_numbers hc__law_are_numbers hk__law_are_numbers
  have b__law_are_numbers := F__law_are_numbers.binds (ps := ["_law_thing", "_law_many"]) fun _ _ _ _ _ _ us hl => match us, hl with | [_, _], _ => rfl
  have F__law_due := fun_mk (st := s__law_due) hl__law_due hc__law_due hk__law_due
  have b__law_due := F__law_due.binds (ps := ["_law_rows", "_law_amounts", "_law_worths"]) fun _ _ _ _ _ _ us hl => match us, hl with | [_, _, _], _ => rfl
  have F_Task___eq__ := fun_mk (st := s_Task___eq__) hl_Task___eq__ hc_Task___eq__ hk_Task___eq__
  have b_Task___eq__ := F_Task___eq__.binds (ps := ["self", "other"]) fun _ _ _ _ _ _ us hl => match us, hl with | [_, _], _ => rfl
  have F__law_is_right := fun_mk (st := s__law_is_right) hl__law_is_right hc__law_is_right hk__law_is_right
  have b__law_is_right := F__law_is_right.binds (ps := ["_law_rows", "_law_amounts", "_law_worths"]) fun _ _ _ _ _ _ us hl => match us, hl with | [_, _, _], _ => rfl
  have F__law_deep := fun_mk (st := s__law_deep) hl__law_deep hc__law_deep hk__law_deep
  have b__law_deep := F__law_deep.binds (ps := []) fun _ _ _ _ _ _ us hl => match us, hl with | [], _ => rfl
  have F__law_bent := fun_mk (st := s__law_bent) hl__law_bent hc__law_bent hk__law_bent
  have b__law_bent := F__law_bent.binds (ps := ["_law_pool_here", "_law_row"]) fun _ _ _ _ _ _ us hl => match us, hl with | [_, _], _ => rfl
  have F__law_bent_rows := fun_mk (st := s__law_bent_rows) hl__law_bent_rows hc__law_bent_rows hk__law_bent_rows
  have b__law_bent_rows := F__law_bent_rows.binds (ps := ["_law_pool_here", "_law_rows"]) fun _ _ _ _ _ _ us hl => match us, hl with | [_, _], _ => rfl
  have F__law_odd := fun_mk (st := s__law_odd) hl__law_odd hc__law_odd hk__law_odd
  have b__law_odd := F__law_odd.binds (ps := ["_law_pool_here"]) fun _ _ _ _ _ _ us hl => match us, hl with | [_], _ => rfl
  have F_law := fun_mk (st := s_law) hl_law hc_law hk_law
  have b_law := F_law.binds (ps := ["_law_script"]) fun _ _ _ _ _ _ us hl => match us, hl with | [_], _ => rfl
  have kc_Task : KC K a_Task := ⟨⟨hp1_Task, hp2_Task, hp3_Task, hp4_Task⟩, hp5_Task, hcs, hct, (by obtain ⟨cd, h1, h2⟩ := Option.map_eq_some_iff.mp hp7_Task; exact ⟨cd, h1, h2⟩), hp8_Task⟩
  have T : Txt K mg P ({ _law_pool := a__law_pool, _law_draw := a__law_draw, _law_number := a__law_number, is_integer := a_is_integer, are_integers := a_are_integers, are_within := a_are_within, are_numbers := a_are_numbers, Task___init__ := a_Task___init__, _law_told := a__law_told, _law_is_int := a__law_is_int, _law_are_ints := a__law_are_ints, _law_are_numbers := a__law_are_numbers, _law_due := a__law_due, Task___eq__ := a_Task___eq__, _law_is_right := a__law_is_right, _law_deep := a__law_deep, _law_bent := a__law_bent, _law_bent_rows := a__law_bent_rows, _law_odd := a__law_odd, law := fa, Task := a_Task, TurnError := a_TurnError, BadTask := a_BadTask, BadTask_init := a_BadTask_init, BadTask_cc := a_BadTask_cc } : Ad) ({ _law_pool := (PySem.W.fnOf "_law_pool" "_law_pool" (defArgs s__law_pool) (defBody s__law_pool) (defScope s__law_pool) .none kV__law_pool dc__law_pool pm__law_pool an__law_pool cd__law_pool ct__law_pool), _law_draw := (PySem.W.fnOf "_law_draw" "_law_draw" (defArgs s__law_draw) (defBody s__law_draw) (defScope s__law_draw) .none kV__law_draw dc__law_draw pm__law_draw an__law_draw cd__law_draw ct__law_draw), _law_number := (PySem.W.fnOf "_law_number" "_law_number" (defArgs s__law_number) (defBody s__law_number) (defScope s__law_number) .none kV__law_number dc__law_number pm__law_number an__law_number cd__law_number ct__law_number), is_integer := (PySem.W.fnOf "is_integer" "is_integer" (defArgs s_is_integer) (defBody s_is_integer) (defScope s_is_integer) .none kV_is_integer dc_is_integer pm_is_integer an_is_integer cd_is_integer ct_is_integer), are_integers := (PySem.W.fnOf "are_integers" "are_integers" (defArgs s_are_integers) (defBody s_are_integers) (defScope s_are_integers) .none kV_are_integers dc_are_integers pm_are_integers an_are_integers cd_are_integers ct_are_integers), are_within := (PySem.W.fnOf "are_within" "are_within" (defArgs s_are_within) (defBody s_are_within) (defScope s_are_within) .none kV_are_within dc_are_within pm_are_within an_are_within cd_are_within ct_are_within), are_numbers := (PySem.W.fnOf "are_numbers" "are_numbers" (defArgs s_are_numbers) (defBody s_are_numbers) (defScope s_are_numbers) .none kV_are_numbers dc_are_numbers pm_are_numbers an_are_numbers cd_are_numbers ct_are_numbers), Task___init__ := (PySem.W.fnOf "__init__" "Task.__init__" (defArgs s_Task___init__) (defBody s_Task___init__) (defScope s_Task___init__) .none kV_Task___init__ dc_Task___init__ pm_Task___init__ an_Task___init__ cd_Task___init__ ct_Task___init__), _law_told := (PySem.W.fnOf "_law_told" "_law_told" (defArgs s__law_told) (defBody s__law_told) (defScope s__law_told) .none kV__law_told dc__law_told pm__law_told an__law_told cd__law_told ct__law_told), _law_is_int := (PySem.W.fnOf "_law_is_int" "_law_is_int" (defArgs s__law_is_int) (defBody s__law_is_int) (defScope s__law_is_int) .none kV__law_is_int dc__law_is_int pm__law_is_int an__law_is_int cd__law_is_int ct__law_is_int), _law_are_ints := (PySem.W.fnOf "_law_are_ints" "_law_are_ints" (defArgs s__law_are_ints) (defBody s__law_are_ints) (defScope s__law_are_ints) .none kV__law_are_ints dc__law_are_ints pm__law_are_ints an__law_are_ints cd__law_are_ints ct__law_are_ints), _law_are_numbers := (PySem.W.fnOf "_law_are_numbers" "_law_are_numbers" (defArgs s__law_are_numbers) (defBody s__law_are_numbers) (defScope s__law_are_numbers) .none kV__law_are_numbers dc__law_are_numbers pm__law_are_numbers an__law_are_numbers cd__law_are_numbers ct__law_are_numbers), _law_due := (PySem.W.fnOf "_law_due" "_law_due" (defArgs s__law_due) (defBody s__law_due) (defScope s__law_due) .none kV__law_due dc__law_due pm__law_due an__law_due cd__law_due ct__law_due), Task___eq__ := (PySem.W.fnOf "__eq__" "Task.__eq__" (defArgs s_Task___eq__) (defBody s_Task___eq__) (defScope s_Task___eq__) .none kV_Task___eq__ dc_Task___eq__ pm_Task___eq__ an_Task___eq__ cd_Task___eq__ ct_Task___eq__), _law_is_right := (PySem.W.fnOf "_law_is_right" "_law_is_right" (defArgs s__law_is_right) (defBody s__law_is_right) (defScope s__law_is_right) .none kV__law_is_right dc__law_is_right pm__law_is_right an__law_is_right cd__law_is_right ct__law_is_right), _law_deep := (PySem.W.fnOf "_law_deep" "_law_deep" (defArgs s__law_deep) (defBody s__law_deep) (defScope s__law_deep) .none kV__law_deep dc__law_deep pm__law_deep an__law_deep cd__law_deep ct__law_deep), _law_bent := (PySem.W.fnOf "_law_bent" "_law_bent" (defArgs s__law_bent) (defBody s__law_bent) (defScope s__law_bent) .none kV__law_bent dc__law_bent pm__law_bent an__law_bent cd__law_bent ct__law_bent), _law_bent_rows := (PySem.W.fnOf "_law_bent_rows" "_law_bent_rows" (defArgs s__law_bent_rows) (defBody s__law_bent_rows) (defScope s__law_bent_rows) .none kV__law_bent_rows dc__law_bent_rows pm__law_bent_rows an__law_bent_rows cd__law_bent_rows ct__law_bent_rows), _law_odd := (PySem.W.fnOf "_law_odd" "_law_odd" (defArgs s__law_odd) (defBody s__law_odd) (defScope s__law_odd) .none kV__law_odd dc__law_odd pm__law_odd an__law_odd cd__law_odd ct__law_odd), law := (PySem.W.fnOf "law" "law" (defArgs s_law) (defBody s_law) (defScope s_law) .none kV_law dc_law pm_law an_law cd_law ct_law) } : Fd) := {
    F__law_pool := F__law_pool
    b__law_pool := b__law_pool
    k__law_pool := hk__law_pool
    m__law_pool := PySem.W.mg_of X G ha__law_pool
    F__law_draw := F__law_draw
    b__law_draw := b__law_draw
    k__law_draw := hk__law_draw
    m__law_draw := PySem.W.mg_of X G ha__law_draw
    F__law_number := F__law_number
    b__law_number := b__law_number
    k__law_number := hk__law_number
    m__law_number := PySem.W.mg_of X G ha__law_number
    F_is_integer := F_is_integer
    b_is_integer := b_is_integer
    k_is_integer := hk_is_integer
    m_is_integer := PySem.W.mg_of X G ha_is_integer
    F_are_integers := F_are_integers
    b_are_integers := b_are_integers
    k_are_integers := hk_are_integers
    m_are_integers := PySem.W.mg_of X G ha_are_integers
    F_are_within := F_are_within
    b_are_within := b_are_within
    k_are_within := hk_are_within
    m_are_within := PySem.W.mg_of X G ha_are_within
    F_are_numbers := F_are_numbers
    b_are_numbers := b_are_numbers
    k_are_numbers := hk_are_numbers
    m_are_numbers := PySem.W.mg_of X G ha_are_numbers
    F_Task___init__ := F_Task___init__
    b_Task___init__ := b_Task___init__
    k_Task___init__ := hk_Task___init__
    fn_Task___init__ := hf_Task___init__
    F__law_told := F__law_told
    b__law_told := b__law_told
    k__law_told := hk__law_told
    m__law_told := PySem.W.mg_of X G ha__law_told
    F__law_is_int := F__law_is_int
    b__law_is_int := b__law_is_int
    k__law_is_int := hk__law_is_int
    m__law_is_int := PySem.W.mg_of X G ha__law_is_int
    F__law_are_ints := F__law_are_ints
    b__law_are_ints := b__law_are_ints
    k__law_are_ints := hk__law_are_ints
    m__law_are_ints := PySem.W.mg_of X G ha__law_are_ints
    F__law_are_numbers := F__law_are_numbers
    b__law_are_numbers := b__law_are_numbers
    k__law_are_numbers := hk__law_are_numbers
    m__law_are_numbers := PySem.W.mg_of X G ha__law_are_numbers
    F__law_due := F__law_due
    b__law_due := b__law_due
    k__law_due := hk__law_due
    m__law_due := PySem.W.mg_of X G ha__law_due
    F_Task___eq__ := F_Task___eq__
    b_Task___eq__ := b_Task___eq__
    k_Task___eq__ := hk_Task___eq__
    fn_Task___eq__ := hf_Task___eq__
    F__law_is_right := F__law_is_right
    b__law_is_right := b__law_is_right
    k__law_is_right := hk__law_is_right
    m__law_is_right := PySem.W.mg_of X G ha__law_is_right
    F__law_deep := F__law_deep
    b__law_deep := b__law_deep
    k__law_deep := hk__law_deep
    m__law_deep := PySem.W.mg_of X G ha__law_deep
    F__law_bent := F__law_bent
    b__law_bent := b__law_bent
    k__law_bent := hk__law_bent
    m__law_bent := PySem.W.mg_of X G ha__law_bent
    F__law_bent_rows := F__law_bent_rows
    b__law_bent_rows := b__law_bent_rows
    k__law_bent_rows := hk__law_bent_rows
    m__law_bent_rows := PySem.W.mg_of X G ha__law_bent_rows
    F__law_odd := F__law_odd
    b__law_odd := b__law_odd
    k__law_odd := hk__law_odd
    m__law_odd := PySem.W.mg_of X G ha__law_odd
    F_law := F_law
    b_law := b_law
    k_law := hk_law
    m_law := PySem.W.mg_of X G ha_law
    m_Task := PySem.W.mg_of X G ha_Task
    kc_Task := kc_Task
    mk_Task := ⟨hm_Task, ha_Task___init__, hf_Task___init__, hq_Task⟩
    e_Task := ha_Task___eq__
    n_Task_amounts := hn_Task_amounts
    n_Task_rows := hn_Task_rows
    n_Task_worths := hn_Task_worths
    c_MOST_NUMBER := ⟨_, PySem.W.mg_of X G hv_MOST_NUMBER, ⟨_, rfl⟩⟩
    c_MOST_PLACES := ⟨_, PySem.W.mg_of X G hv_MOST_PLACES, ⟨_, rfl⟩⟩
    c_MOST_ROWS := ⟨_, PySem.W.mg_of X G hv_MOST_ROWS, ⟨_, rfl⟩⟩
    z_ValueError := PySem.W.mg_none_of X G hz_ValueError
    z_abs := PySem.W.mg_none_of X G hz_abs
    z_all := PySem.W.mg_none_of X G hz_all
    z_bool := PySem.W.mg_none_of X G hz_bool
    z_int := PySem.W.mg_none_of X G hz_int
    z_isinstance := PySem.W.mg_none_of X G hz_isinstance
    z_len := PySem.W.mg_none_of X G hz_len
    z_list := PySem.W.mg_none_of X G hz_list
    z_range := PySem.W.mg_none_of X G hz_range
    z_sum := PySem.W.mg_none_of X G hz_sum
    z_tuple := PySem.W.mg_none_of X G hz_tuple
    isC := fun C h => by
      unfold isC at h
      simp only [Bool.or_eq_true, decide_eq_true_eq] at h
      rcases h with rfl
      · exact kc_Task
    xt_BadTask := { cls := ⟨_, _, _, _, _, _, _, _, _, _, _, _, _, _, _, xa_BadTask, by rfl⟩, sa := xb_BadTask, iC := xc_BadTask, tC := xd_BadTask, veC := xe_BadTask, cell := ⟨_, _, _, xg_BadTask⟩, sub := xh_BadTask, sup := xsup, tp := xtp, top := xtop, along := xi_BadTask }
    xn_BadTask := { args := fun fd us h1 h2 h3 h4 => (match us, h4 with | [_, _], _ => by cases fd; dsimp only at h1 h2 h3; subst h1 h2 h3; rfl), he := ⟨_, fun _ _ _ _ _ => rfl⟩, fn := ⟨_, _, _, _, _, _, _, _, _, _, _, _, _, _, _, xf_BadTask, xj_BadTask, xk_BadTask, xl_BadTask, xm_BadTask⟩ }
    nx_BadTask_part := xw_BadTask
    xf_BadTask := ⟨xr_BadTask, xs_BadTask, xp_BadTask, xt_BadTask⟩
    kk_BadTask := xo_BadTask
    ex_BadTask := xp_BadTask
    ty_BadTask := xq_BadTask
    m_TurnError := PySem.W.mg_of X G ha_TurnError
    m_BadTask := PySem.W.mg_of X G ha_BadTask
    xs_TurnError := fun D b h => by
      unfold xsub_TurnError at h
      dsimp only at h
      split at h
      · rename_i e; rw [e]; cases h; exact ym_BadTask_TurnError
      cases h
    xt := ⟨fun e he => by
      simp only [xtab, List.mem_cons, List.not_mem_nil, or_false] at he
      rcases he with rfl | rfl
      · exact ⟨xr_BadTask, xs_BadTask, xp_BadTask, xt_BadTask, xu_BadTask, hcs, hct, xv_BadTask⟩
      · exact ⟨xr_BadTask, xs_BadTask, xp_BadTask, xt_BadTask, xu_BadTask, hcs, hct, xv_BadTask⟩, fun e he => by
      simp only [xtab, List.mem_cons, List.not_mem_nil, or_false] at he
      rcases he with rfl | rfl
      · exact yk_BadTask_BadTask
      · exact yk_BadTask_ValueError⟩
  }
  exact ⟨(PySem.W.fnOf "law" "law" (defArgs s_law) (defBody s_law) (defScope s_law) .none kV_law dc_law pm_law an_law cd_law ct_law), fun s v => .of_eq rfl, fun base _ _ => ok_law T⟩
end Lk24
namespace Lk24
open PySem PySem.Spec L2 DL
def isI : D → Bool
  | .int _ => true
  | _ => false
def ok1 : D → Bool
  | .typ _ => false
  | .adr _ => false
  | .xn .. => false
  | _ => true
inductive Gd : D → Prop
  | one {d : D} (h : ok1 d = true) (n : ∀ ds, d ≠ .tup ds) : Gd d
  | tup {ds : List D} (h : ∀ d ∈ ds, Gd d) : Gd (.tup ds)
theorem Gd.ok {d : D} (h : Gd d) : ok1 d = true := by
  cases h with
  | one h _ => exact h
  | tup _ => rfl
theorem Gd.items {ds : List D} (h : Gd (.tup ds)) : ∀ d ∈ ds, Gd d := by
  cases h with
  | one _ n => exact absurd rfl (n ds)
  | tup h => exact h
@[simp] theorem isi_int_0 (c : Addr → Bool) (g : G) : isiS c [.d .non, .d (.typ "int")] g = .ok (.d (.bl false)) g := rfl
@[simp] theorem isi_int_1 (c : Addr → Bool) {b : Bool} (g : G) : isiS c [.d (.bl b), .d (.typ "int")] g = .ok (.d (.bl true)) g := rfl
@[simp] theorem isi_int_2 (c : Addr → Bool) {i : Int} (g : G) : isiS c [.d (.int i), .d (.typ "int")] g = .ok (.d (.bl true)) g := rfl
@[simp] theorem isi_int_3 (c : Addr → Bool) {x : Str} (g : G) : isiS c [.d (.str x), .d (.typ "int")] g = .ok (.d (.bl false)) g := rfl
@[simp] theorem isi_int_4 (c : Addr → Bool) {ds : List D} (g : G) : isiS c [.d (.tup ds), .d (.typ "int")] g = .ok (.d (.bl false)) g := rfl
@[simp] theorem isi_int_5 (c : Addr → Bool) {ds : List D} (g : G) : isiS c [.d (.lst ds), .d (.typ "int")] g = .ok (.d (.bl false)) g := rfl
@[simp] theorem isi_int_6 (c : Addr → Bool) {ns : List Int} (g : G) : isiS c [.d (.scr ns), .d (.typ "int")] g = .ok (.d (.bl false)) g := rfl
@[simp] theorem isi_int_7 (c : Addr → Bool) {C : Addr} {fs : List (Str × D)} (g : G) : isiS c [.d (.ins C fs), .d (.typ "int")] g = .ok (.d (.bl false)) g := rfl
@[simp] theorem isi_int_8 (c : Addr → Bool) {k : List (Key × D)} (g : G) : isiS c [.d (.dct k), .d (.typ "int")] g = .ok (.d (.bl false)) g := rfl
@[simp] theorem isi_bool_0 (c : Addr → Bool) (g : G) : isiS c [.d .non, .d (.typ "bool")] g = .ok (.d (.bl false)) g := rfl
@[simp] theorem isi_bool_1 (c : Addr → Bool) {b : Bool} (g : G) : isiS c [.d (.bl b), .d (.typ "bool")] g = .ok (.d (.bl true)) g := rfl
@[simp] theorem isi_bool_2 (c : Addr → Bool) {i : Int} (g : G) : isiS c [.d (.int i), .d (.typ "bool")] g = .ok (.d (.bl false)) g := rfl
@[simp] theorem isi_bool_3 (c : Addr → Bool) {x : Str} (g : G) : isiS c [.d (.str x), .d (.typ "bool")] g = .ok (.d (.bl false)) g := rfl
@[simp] theorem isi_bool_4 (c : Addr → Bool) {ds : List D} (g : G) : isiS c [.d (.tup ds), .d (.typ "bool")] g = .ok (.d (.bl false)) g := rfl
@[simp] theorem isi_bool_5 (c : Addr → Bool) {ds : List D} (g : G) : isiS c [.d (.lst ds), .d (.typ "bool")] g = .ok (.d (.bl false)) g := rfl
@[simp] theorem isi_bool_6 (c : Addr → Bool) {ns : List Int} (g : G) : isiS c [.d (.scr ns), .d (.typ "bool")] g = .ok (.d (.bl false)) g := rfl
@[simp] theorem isi_bool_7 (c : Addr → Bool) {C : Addr} {fs : List (Str × D)} (g : G) : isiS c [.d (.ins C fs), .d (.typ "bool")] g = .ok (.d (.bl false)) g := rfl
@[simp] theorem isi_bool_8 (c : Addr → Bool) {k : List (Key × D)} (g : G) : isiS c [.d (.dct k), .d (.typ "bool")] g = .ok (.d (.bl false)) g := rfl
@[simp] theorem isi_tuple_0 (c : Addr → Bool) (g : G) : isiS c [.d .non, .d (.typ "tuple")] g = .ok (.d (.bl false)) g := rfl
@[simp] theorem isi_tuple_1 (c : Addr → Bool) {b : Bool} (g : G) : isiS c [.d (.bl b), .d (.typ "tuple")] g = .ok (.d (.bl false)) g := rfl
@[simp] theorem isi_tuple_2 (c : Addr → Bool) {i : Int} (g : G) : isiS c [.d (.int i), .d (.typ "tuple")] g = .ok (.d (.bl false)) g := rfl
@[simp] theorem isi_tuple_3 (c : Addr → Bool) {x : Str} (g : G) : isiS c [.d (.str x), .d (.typ "tuple")] g = .ok (.d (.bl false)) g := rfl
@[simp] theorem isi_tuple_4 (c : Addr → Bool) {ds : List D} (g : G) : isiS c [.d (.tup ds), .d (.typ "tuple")] g = .ok (.d (.bl true)) g := rfl
@[simp] theorem isi_tuple_5 (c : Addr → Bool) {ds : List D} (g : G) : isiS c [.d (.lst ds), .d (.typ "tuple")] g = .ok (.d (.bl false)) g := rfl
@[simp] theorem isi_tuple_6 (c : Addr → Bool) {ns : List Int} (g : G) : isiS c [.d (.scr ns), .d (.typ "tuple")] g = .ok (.d (.bl false)) g := rfl
@[simp] theorem isi_tuple_7 (c : Addr → Bool) {C : Addr} {fs : List (Str × D)} (g : G) : isiS c [.d (.ins C fs), .d (.typ "tuple")] g = .ok (.d (.bl false)) g := rfl
@[simp] theorem isi_tuple_8 (c : Addr → Bool) {k : List (Key × D)} (g : G) : isiS c [.d (.dct k), .d (.typ "tuple")] g = .ok (.d (.bl false)) g := rfl
section
variable (A : Ad)
theorem is_integer_eq {d : D} (h : ok1 d = true) (g : G) : phi_is_integer A [.d d] g = .ok (.d (.bl (isI d))) g := by
  unfold phi_is_integer d_is_integer defD
  cases d <;> first | (cases h; done) | simp [finD, isI]
theorem is_int_eq {d : D} (h : ok1 d = true) (g : G) : phi__law_is_int A [.d d] g = .ok (.d (.bl (isI d))) g := by
  unfold phi__law_is_int d__law_is_int defD
  cases d <;> first | (cases h; done) | simp [finD, isI]
def areI (d : D) (n : Int) : Bool := match d with
  | .tup ds => decide ((ds.length : Int) = n) && ds.all isI
  | _ => false
theorem all_map (ds : List D) (f : D → Bool) : allF (.lst (ds.map fun d => .bl (f d))) = some (.bl (ds.all f)) := by
  have e : (ds.map fun d => D.bl (f d)) = (ds.map f).map D.bl := by rw [List.map_map]; rfl
  rw [e]
  show (blsL ((ds.map f).map D.bl)).map _ = _
  rw [blsL_map]
  simp [List.all_map]
theorem are_integers_eq {d : D} (h : Gd d) (hl : ∀ ds, d = .tup ds → ds.length ≤ 10000000) (n : Int) (g : G) : phi_are_integers A [.d d, .d (.int n)] g = .ok (.d (.bl (areI d n))) g := by
  unfold phi_are_integers d_are_integers defD
  cases d with
  | tup ds =>
    have hi := h.items
    have e : d_are_integers_c1 A [some (.d (.tup ds)), some (.d (.int n)), none] g = .ok (.d (.lst (ds.map fun d => .bl (isI d)))) g :=
      compD_map _ (ds := ds) (g1 := g) (by simp) (fun d hd acc => ⟨_, rfl, rfl, by simp [d_are_integers_c1e, is_integer_eq A (hi d hd).ok]⟩) (hl ds rfl)
    by_cases hn : (ds.length : Int) = n
    · simp [areI, e, all_map, hn, finD]
    · simp [areI, hn, finD]
  | _ => first | (cases h.ok; done) | simp [finD, areI]
theorem are_ints_eq {d : D} (h : Gd d) (hl : ∀ ds, d = .tup ds → ds.length ≤ 10000000) (n : Int) (g : G) : phi__law_are_ints A [.d d, .d (.int n)] g = .ok (.d (.bl (areI d n))) g := by
  unfold phi__law_are_ints d__law_are_ints defD
  cases d with
  | tup ds =>
    have hi := h.items
    have e : d__law_are_ints_c1 A [some (.d (.tup ds)), some (.d (.int n)), none] g = .ok (.d (.lst (ds.map fun d => .bl (isI d)))) g :=
      compD_map _ (ds := ds) (g1 := g) (by simp) (fun d hd acc => ⟨_, rfl, rfl, by simp [d__law_are_ints_c1e, is_int_eq A (hi d hd).ok]⟩) (hl ds rfl)
    by_cases hn : (ds.length : Int) = n
    · simp [areI, e, all_map, hn, finD]
    · simp [areI, hn, finD]
  | _ => first | (cases h.ok; done) | simp [finD, areI]

def inI (lo hi : Int) : D → Bool
  | .int i => decide (lo ≤ i) && decide (i ≤ hi)
  | _ => false
def itW (d : D) (f : D → Bool) : Bool := match d with
  | .tup ds => ds.all f
  | _ => false
def areW (d : D) (n lo hi : Int) : Bool := areI d n && itW d (inI lo hi)
theorem isI_int {d : D} (h : isI d = true) : ∃ i, d = .int i := by
  cases d <;> first | (cases h; done) | exact ⟨_, rfl⟩
theorem areI_tup {d : D} {n : Int} (h : areI d n = true) : ∃ is : List Int, d = .tup (is.map D.int) ∧ (is.length : Int) = n := by
  unfold areI at h
  split at h
  · rename_i ds
    simp at h
    obtain ⟨h1, h2⟩ := h
    have : ∀ ds : List D, (∀ x ∈ ds, isI x = true) → ∃ is : List Int, ds = is.map D.int := fun ds => by
      induction ds with
      | nil => exact fun _ => ⟨[], rfl⟩
      | cons d ds ih =>
        intro hh
        obtain ⟨i, rfl⟩ := isI_int (hh d List.mem_cons_self)
        obtain ⟨is, e⟩ := ih fun x hx => hh x (List.mem_cons_of_mem _ hx)
        exact ⟨i :: is, by rw [e]; rfl⟩
    obtain ⟨is, rfl⟩ := this ds h2
    exact ⟨is, rfl, by simpa using h1⟩
  · cases h
abbrev Sm (d : D) : Prop := ∀ ds, d = .tup ds → ds.length ≤ 10000000
theorem are_within_eq {d : D} (h : Gd d) (hl : Sm d) (n lo hi : Int) (g : G) : phi_are_within A [.d d, .d (.int n), .d (.int lo), .d (.int hi)] g = .ok (.d (.bl (areW d n lo hi))) g := by
  unfold phi_are_within d_are_within defD
  simp [are_integers_eq A h hl]
  cases hb : areI d n with
  | false => simp [areW, hb, finD]
  | true =>
    obtain ⟨is, rfl, hn⟩ := areI_tup hb
    have e : d_are_within_c1 A [some (.d (.tup (is.map D.int))), some (.d (.int n)), some (.d (.int lo)), some (.d (.int hi)), none] g = .ok (.d (.lst ((is.map D.int).map fun d => .bl (inI lo hi d)))) g :=
      compD_map _ (ds := is.map D.int) (g1 := g) (by simp) (fun d hd acc => ⟨_, rfl, rfl, by
        obtain ⟨i, _, rfl⟩ := List.mem_map.mp hd
        simp [d_are_within_c1e, chD, inI]
        by_cases q : lo ≤ i <;> simp [q]⟩) (hl _ rfl)
    simp [-List.map_map, -List.all_map, e, all_map, areW, hb, finD, itW]
abbrev M : Int := 10000000000000000000000000000000000000000
def areN (d : D) (n : Int) : Bool := areW d n (-M) M
theorem are_numbers_eq {d : D} (h : Gd d) (hl : Sm d) (n : Int) (g : G) : phi_are_numbers A [.d d, .d (.int n)] g = .ok (.d (.bl (areN d n))) g := by
  unfold phi_are_numbers d_are_numbers defD
  simp [are_within_eq A h hl, finD]
  rfl
theorem law_are_numbers_eq {d : D} (h : Gd d) (hl : Sm d) (n : Int) (g : G) : phi__law_are_numbers A [.d d, .d (.int n)] g = .ok (.d (.bl (areN d n))) g := by
  unfold phi__law_are_numbers d__law_are_numbers defD
  simp [are_ints_eq A h hl]
  cases hb : areI d n with
  | false => simp [areN, areW, hb, finD]
  | true =>
    obtain ⟨is, rfl, hn⟩ := areI_tup hb
    have e : d__law_are_numbers_c1 A [some (.d (.tup (is.map D.int))), some (.d (.int n)), none] g = .ok (.d (.lst ((is.map D.int).map fun d => .bl (inI (-M) M d)))) g :=
      compD_map _ (ds := is.map D.int) (g1 := g) (by simp) (fun d hd acc => ⟨_, rfl, rfl, by
        obtain ⟨i, _, rfl⟩ := List.mem_map.mp hd
        simp [d__law_are_numbers_c1e, inI]
        by_cases q : -M ≤ i <;> simp [q]⟩) (hl _ rfl)
    simp [-List.map_map, -List.all_map, e, all_map, areN, areW, hb, finD, itW]
/-! ### what is due -/
abbrev Str' := Str
def lenT : D → Nat
  | .tup ds => ds.length
  | _ => 0
def isT : D → Bool
  | .tup _ => true
  | _ => false
def okW (w : D) : Bool := isT w && decide (1 ≤ lenT w) && decide (lenT w ≤ 100) && areN w (lenT w)
def okR (r : D) (n : Nat) : Bool := isT r && decide (lenT r ≤ 40) && itW r fun d => areN d n
def due (r a w : D) : Str := if okW w then (if okR r (lenT w) then (if areN a (lenT r) then "let" else "amounts") else "rows") else "worths"
theorem isT_tup {d : D} (h : isT d = true) : ∃ ds, d = .tup ds := by
  cases d <;> first | (cases h; done) | exact ⟨_, rfl⟩
theorem okW_tup {ws : List D} : okW (.tup ws) = true ↔ 1 ≤ ws.length ∧ ws.length ≤ 100 ∧ areN (.tup ws) ws.length = true := by
  unfold okW
  rw [Bool.and_eq_true, Bool.and_eq_true, Bool.and_eq_true, decide_eq_true_eq, decide_eq_true_eq]
  exact ⟨fun ⟨⟨⟨_, a⟩, b⟩, c⟩ => ⟨a, b, c⟩, fun ⟨a, b, c⟩ => ⟨⟨⟨rfl, a⟩, b⟩, c⟩⟩
theorem okR_tup {rs : List D} {n : Nat} : okR (.tup rs) n = true ↔ rs.length ≤ 40 ∧ (rs.all fun d => areN d n) = true := by
  unfold okR
  rw [Bool.and_eq_true, Bool.and_eq_true, decide_eq_true_eq]
  exact ⟨fun ⟨⟨_, a⟩, b⟩ => ⟨a, b⟩, fun ⟨a, b⟩ => ⟨⟨rfl, a⟩, b⟩⟩
structure Good (r a w : D) : Prop where
  gr : Gd r
  ga : Gd a
  gw : Gd w
  sr : Sm r
  sa : Sm a
  sw : Sm w
  si : ∀ rs, r = .tup rs → ∀ d ∈ rs, Sm d
theorem due_eq {r a w : D} (h : Good r a w) (g : G) : phi__law_due A [.d r, .d a, .d w] g = .ok (.d (.str (due r a w))) g := by
  unfold phi__law_due d__law_due defD
  cases hw : isT w with
  | false =>
    have e : isiS (isC A) [.d w, .d (.typ "tuple")] g = .ok (.d (.bl false)) g := by
      have := h.gw.ok
      cases w <;> first | (cases hw; done) | (cases this; done) | simp
    simp [e, due, okW, hw, finD]
  | true =>
    obtain ⟨ws, rfl⟩ := isT_tup hw
    cases h1 : okW (.tup ws) with
    | false =>
      by_cases q1 : (1 : Int) ≤ ws.length
      · by_cases q2 : (ws.length : Int) ≤ 100
        · have q3 : areN (.tup ws) ws.length = false := by
            cases q : areN (.tup ws) ws.length with
            | false => rfl
            | true => exact absurd (okW_tup.mpr ⟨by omega, by omega, q⟩) (by rw [h1]; decide)
          simp [chD, q1, q2, law_are_numbers_eq A h.gw h.sw, q3, due, h1, finD]
        · simp [chD, q1, q2, due, h1, finD]
      · simp [chD, q1, due, h1, finD]
    | true =>
      obtain ⟨q1, q2, q3⟩ := okW_tup.mp h1
      have q1' : (1 : Int) ≤ ws.length := by omega
      have q2' : (ws.length : Int) ≤ 100 := by omega
      cases hr : isT r with
      | false =>
        have e : isiS (isC A) [.d r, .d (.typ "tuple")] g = .ok (.d (.bl false)) g := by
          have := h.gr.ok
          cases r <;> first | (cases hr; done) | (cases this; done) | simp
        simp [chD, q1', q2', law_are_numbers_eq A h.gw h.sw, q3, e, due, h1, okR, hr, finD]
      | true =>
        obtain ⟨rs, rfl⟩ := isT_tup hr
        have hi := h.gr.items
        by_cases q4 : (40 : Int) < rs.length
        · have : ¬ rs.length ≤ 40 := by omega
          simp [chD, q1', q2', law_are_numbers_eq A h.gw h.sw, q3, q4, due, h1, okR, isT, lenT, this, finD]
        · have q4' : rs.length ≤ 40 := by omega
          have e : d__law_due_c1 A [some (.d (.tup rs)), some (.d a), some (.d (.tup ws)), none] g = .ok (.d (.lst (rs.map fun d => .bl (areN d ws.length)))) g :=
            compD_map _ (ds := rs) (g1 := g) (by simp) (fun d hd acc => ⟨_, rfl, rfl, by simp [d__law_due_c1e, law_are_numbers_eq A (hi d hd) (h.si rs rfl d hd)]⟩) (by omega)
          cases q5 : rs.all fun d => areN d ws.length with
          | false => simp [chD, q1', q2', law_are_numbers_eq A h.gw h.sw, q3, q4, e, all_map, q5, due, h1, okR, isT, lenT, q4', itW, finD]
          | true =>
            cases q6 : areN a rs.length with
            | false => simp [chD, q1', q2', law_are_numbers_eq A h.gw h.sw, law_are_numbers_eq A h.ga h.sa, q3, q4, e, all_map, q5, q6, due, h1, okR, isT, lenT, q4', itW, finD]
            | true => simp [chD, q1', q2', law_are_numbers_eq A h.gw h.sw, law_are_numbers_eq A h.ga h.sa, q3, q4, e, all_map, q5, q6, due, h1, okR, isT, lenT, q4', itW, finD]

theorem n1 : ¬ (("rows" : Str) = "amounts") := by decide +kernel
theorem n2 : ¬ (("rows" : Str) = "worths") := by decide +kernel
theorem n3 : ¬ (("amounts" : Str) = "worths") := by decide +kernel
theorem n4 : ¬ (("worths" : Str) = "let") := by decide +kernel
theorem n5 : ¬ (("rows" : Str) = "let") := by decide +kernel
theorem n6 : ¬ (("amounts" : Str) = "let") := by decide +kernel
theorem o1 : PyData.strOk "let" = true := by decide +kernel
theorem o2 : PyData.strOk "rows" = true := by decide +kernel
theorem o3 : PyData.strOk "worths" = true := by decide +kernel
theorem o4 : PyData.strOk "amounts" = true := by decide +kernel
theorem due_ok (r a w : D) : PyData.strOk (due r a w) = true := by
  unfold due
  split
  · split
    · split
      · exact o1
      · exact o4
    · exact o2
  · exact o3
def tsk (r a w : D) : D := .ins A.Task [("rows", r), ("amounts", a), ("worths", w)]
theorem init_eq {r a w : D} (h : Good r a w) (g : G) (p : Nat) (hp : g[p]? = some (.ins A.Task [])) : phi_Task___init__ A [.c p, .d r, .d a, .d w] g =
    if due r a w = "let" then .ok (.d .non) (g.set p (.ins A.Task [("rows", r), ("amounts", a), ("worths", w)])) else .exc A.BadTask [("part", .str (due r a w))] g := by
  have hlt := (List.getElem?_eq_some_iff.mp hp).1
  unfold phi_Task___init__ d_Task___init__ defD
  cases hw : isT w with
  | false =>
    have e : isiS (isC A) [.d w, .d (.typ "tuple")] g = .ok (.d (.bl false)) g := by
      have := h.gw.ok
      cases w <;> first | (cases hw; done) | (cases this; done) | simp
    simp [e, due, okW, hw, raise1, n4]
  | true =>
    obtain ⟨ws, rfl⟩ := isT_tup hw
    cases h1 : okW (.tup ws) with
    | false =>
      by_cases q1 : (1 : Int) ≤ ws.length
      · by_cases q2 : (ws.length : Int) ≤ 100
        · have q3 : areN (.tup ws) ws.length = false := by
            cases q : areN (.tup ws) ws.length with
            | false => rfl
            | true => exact absurd (okW_tup.mpr ⟨by omega, by omega, q⟩) (by rw [h1]; decide)
          simp [chD, q1, q2, are_numbers_eq A h.gw h.sw, q3, due, h1, raise1, n4]
        · simp [chD, q1, q2, due, h1, raise1, n4]
      · simp [chD, q1, due, h1, raise1, n4]
    | true =>
      obtain ⟨q1, q2, q3⟩ := okW_tup.mp h1
      have q1' : (1 : Int) ≤ ws.length := by omega
      have q2' : (ws.length : Int) ≤ 100 := by omega
      cases hr : isT r with
      | false =>
        have e : isiS (isC A) [.d r, .d (.typ "tuple")] g = .ok (.d (.bl false)) g := by
          have := h.gr.ok
          cases r <;> first | (cases hr; done) | (cases this; done) | simp
        simp [chD, q1', q2', are_numbers_eq A h.gw h.sw, q3, e, due, h1, okR, hr, raise1, n5]
      | true =>
        obtain ⟨rs, rfl⟩ := isT_tup hr
        have hi := h.gr.items
        by_cases q4 : (40 : Int) < rs.length
        · have : ¬ rs.length ≤ 40 := by omega
          simp [chD, q1', q2', are_numbers_eq A h.gw h.sw, q3, q4, due, h1, okR, isT, lenT, this, raise1, n5]
        · have q4' : rs.length ≤ 40 := by omega
          have e : d_Task___init___c1 A [some (.c p), some (.d (.tup rs)), some (.d a), some (.d (.tup ws)), none] g = .ok (.d (.lst (rs.map fun d => .bl (areN d ws.length)))) g :=
            compD_map _ (ds := rs) (g1 := g) (by simp) (fun d hd acc => ⟨_, rfl, rfl, by simp [d_Task___init___c1e, are_numbers_eq A (hi d hd) (h.si rs rfl d hd)]⟩) (by omega)
          cases q5 : rs.all fun d => areN d ws.length with
          | false => simp [chD, q1', q2', are_numbers_eq A h.gw h.sw, q3, q4, e, all_map, q5, due, h1, okR, isT, lenT, q4', itW, raise1, n5]
          | true =>
            cases q6 : areN a rs.length with
            | false => simp [chD, q1', q2', are_numbers_eq A h.gw h.sw, are_numbers_eq A h.ga h.sa, q3, q4, e, all_map, q5, q6, due, h1, okR, isT, lenT, q4', itW, raise1, n6]
            | true =>
              have s1 := sfld_ok (c := A.Task) (n := "rows") (fo := varD 0) (fv := varD 1) (ρ := [some (.c p), some (.d (.tup rs)), some (.d a), some (.d (.tup ws)), none]) (g := g) (x := .tup rs) (p := p) (gs := []) (by simp) (by simp) hp (by decide)
              have h2 : (g.set p (.ins A.Task [("rows", .tup rs)]))[p]? = some (.ins A.Task [("rows", .tup rs)]) := List.getElem?_set_self hlt
              have s2 := sfld_ok (c := A.Task) (n := "amounts") (fo := varD 0) (fv := varD 2) (ρ := [some (.c p), some (.d (.tup rs)), some (.d a), some (.d (.tup ws)), none]) (x := a) (p := p) (by simp) (by simp) h2 (by simp)
              have p2 : putD "amounts" a [(("rows" : Str), D.tup rs)] = ([("rows", .tup rs), ("amounts", a)] : List (Str × D)) := by simp [putD, n1]
              rw [p2, List.set_set] at s2
              have h3 : (g.set p (.ins A.Task [("rows", .tup rs), ("amounts", a)]))[p]? = some (.ins A.Task [("rows", .tup rs), ("amounts", a)]) := List.getElem?_set_self hlt
              have s3 := sfld_ok (c := A.Task) (n := "worths") (fo := varD 0) (fv := varD 3) (ρ := [some (.c p), some (.d (.tup rs)), some (.d a), some (.d (.tup ws)), none]) (x := .tup ws) (p := p) (by simp) (by simp) h3 (by simp)
              have p3 : putD "worths" (.tup ws) [(("rows" : Str), D.tup rs), ("amounts", a)] = ([("rows", .tup rs), ("amounts", a), ("worths", .tup ws)] : List (Str × D)) := by simp [putD, n2, n3]
              rw [p3, List.set_set] at s3
              have s1' : sfldS A.Task "rows" (varD 0) (varD 1) [some (.c p), some (.d (.tup rs)), some (.d a), some (.d (.tup ws)), none] g = .nx [some (.c p), some (.d (.tup rs)), some (.d a), some (.d (.tup ws)), none] (g.set p (.ins A.Task [("rows", .tup rs)])) := s1
              clear s1
              simp [chD, q1', q2', are_numbers_eq A h.gw h.sw, are_numbers_eq A h.ga h.sa, q3, q4, e, all_map, q5, q6, due, h1, okR, isT, lenT, q4', itW, s1', s2, s3, take_set_self]
theorem mk_eq {r a w : D} (h : Good r a w) (hd : due r a w = "let") {fl : DE (List S)} {ρ : DL.Env} {g g1 : G} (hf : fl ρ g = .ok [.d r, .d a, .d w] g1) :
    frzD (makeC A.Task (phi_Task___init__ A) fl) ρ g = .ok (.d (tsk A r a w)) (g1 ++ [.dead]) := by
  have e := init_eq A h (g1 ++ [.ins A.Task []]) g1.length (app_get _ _)
  rw [if_pos hd] at e
  rw [app_set] at e
  simp only [frzD, makeC, hf, makeF, e, tsk, R.bind_ok]
  rw [take_app1]
  simp only [R.bind_ok, app_get, snapC, app_set]
theorem mk_exc {r a w : D} (h : Good r a w) (hd : ¬ due r a w = "let") {fl : DE (List S)} {ρ : DL.Env} {g g1 : G} (hf : fl ρ g = .ok [.d r, .d a, .d w] g1) :
    frzD (makeC A.Task (phi_Task___init__ A) fl) ρ g = .exc A.BadTask [("part", .str (due r a w))] g1 := by
  have e := init_eq A h (g1 ++ [.ins A.Task []]) g1.length (app_get _ _)
  rw [if_neg hd] at e
  simp [makeC, hf, makeF, e]
def toldV (r a w : D) : D := .tup [.str (due r a w), if due r a w = "let" then tsk A r a w else .non]
theorem told_eq {r a w : D} (h : Good r a w) (g : G) : phi__law_told A [.d r, .d a, .d w] g = .ok (.d (toldV A r a w)) g := by
  unfold phi__law_told d__law_told defD
  by_cases hd : due r a w = "let"
  · have e := mk_eq A h hd (fl := consL (varD 0) (consL (varD 1) (consL (varD 2) nilL))) (ρ := [some (.d r), some (.d a), some (.d w), some (.d (.tup [.str "let", .non])), none]) (g := g) (g1 := g) (by simp)
    simp [-frzD, tryS, e, finD, toldV, hd]
  · have e := mk_exc A h hd (fl := consL (varD 0) (consL (varD 1) (consL (varD 2) nilL))) (ρ := [some (.d r), some (.d a), some (.d w), some (.d (.tup [.str "let", .non])), none]) (g := g) (g1 := g) (by simp)
    simp [-frzD, tryS, e, finD, toldV, hd, catD, xsub_TurnError]
    rw [anyO_eq (o := .nx [some (.d r), some (.d a), some (.d w), some (.d (.tup [.str (due r a w), .non])), none] g)]
    · simp
    · intro a' d'
      simp [xnI, isxS, exD, exFind, xtab, wipI, wipE, xfS]
end
end Lk24
namespace Lk24
open PySem PySem.Spec L2 DL
abbrev intsT (is : List Int) : D := .tup (is.map D.int)
abbrev rowsT (R : List (List Int)) : D := .tup (R.map intsT)
def Bd (i : Int) : Prop := -M ≤ i ∧ i ≤ M
structure Val (R : List (List Int)) (Am Wo : List Int) : Prop where
  w1 : 1 ≤ Wo.length
  w2 : Wo.length ≤ 100
  r1 : R.length ≤ 40
  a1 : Am.length = R.length
  rr : ∀ x ∈ R, x.length = Wo.length ∧ ∀ i ∈ x, Bd i
  ab : ∀ i ∈ Am, Bd i
  wb : ∀ i ∈ Wo, Bd i
theorem areN_ints {d : D} {n : Nat} : areN d n = true ↔ ∃ is : List Int, d = intsT is ∧ is.length = n ∧ ∀ i ∈ is, Bd i := by
  constructor
  · intro h
    obtain ⟨h1, h2⟩ := Bool.and_eq_true_iff.mp h
    obtain ⟨is, rfl, h3⟩ := areI_tup h1
    refine ⟨is, rfl, by omega, fun i hi => ?_⟩
    have h4 : ((is.map D.int).all (inI (-M) M)) = true := h2
    rw [List.all_eq_true] at h4
    have h5 := h4 (.int i) (List.mem_map.mpr ⟨i, hi, rfl⟩)
    obtain ⟨h6, h7⟩ := Bool.and_eq_true_iff.mp (show (decide (-M ≤ i) && decide (i ≤ M)) = true from h5)
    exact ⟨of_decide_eq_true h6, of_decide_eq_true h7⟩
  · rintro ⟨is, rfl, h1, h2⟩
    refine Bool.and_eq_true_iff.mpr ⟨?_, ?_⟩
    · show (decide (((is.map D.int).length : Int) = n) && (is.map D.int).all isI) = true
      rw [List.length_map, h1]
      simp [isI]
    · show ((is.map D.int).all (inI (-M) M)) = true
      rw [List.all_eq_true]
      intro d hd
      obtain ⟨i, hi, rfl⟩ := List.mem_map.mp hd
      show (decide (-M ≤ i) && decide (i ≤ M)) = true
      have := h2 i hi
      rw [decide_eq_true this.1, decide_eq_true this.2]; rfl
theorem due_let {r a w : D} : due r a w = "let" ↔ ∃ R Am Wo, r = rowsT R ∧ a = intsT Am ∧ w = intsT Wo ∧ Val R Am Wo := by
  constructor
  · intro h
    unfold due at h
    cases h1 : okW w with
    | false => rw [h1] at h; exact absurd h n4
    | true =>
      rw [h1, if_pos rfl] at h
      cases h2 : okR r (lenT w) with
      | false => rw [h2] at h; exact absurd h n5
      | true =>
        rw [h2, if_pos rfl] at h
        cases h3 : areN a (lenT r) with
        | false => rw [h3] at h; exact absurd h n6
        | true =>
          have t1 : isT w = true := by
            unfold okW at h1
            rw [Bool.and_eq_true, Bool.and_eq_true, Bool.and_eq_true] at h1
            exact h1.1.1.1
          have t2 : isT r = true := by
            unfold okR at h2
            rw [Bool.and_eq_true, Bool.and_eq_true] at h2
            exact h2.1.1
          obtain ⟨ws, rfl⟩ := isT_tup t1
          obtain ⟨rs, rfl⟩ := isT_tup t2
          obtain ⟨q1, q2, q3⟩ := okW_tup.mp h1
          obtain ⟨q4, q5⟩ := okR_tup.mp h2
          obtain ⟨Wo, e1, e2, e3⟩ := areN_ints.mp q3
          obtain ⟨Am, e4, e5, e6⟩ := areN_ints.mp h3
          have e1' : ws = Wo.map D.int := by cases e1; rfl
          have e7 : ∀ rs : List D, (rs.all fun d => areN d (lenT (.tup ws))) = true → ∃ R : List (List Int), rs = R.map intsT ∧ ∀ x ∈ R, x.length = ws.length ∧ ∀ i ∈ x, Bd i := fun rs => by
            induction rs with
            | nil => exact fun _ => ⟨[], rfl, by simp⟩
            | cons d ds ih =>
              intro hh
              rw [List.all_cons, Bool.and_eq_true] at hh
              obtain ⟨x, z1, z2, z3⟩ := areN_ints.mp hh.1
              obtain ⟨R, z4, z5⟩ := ih hh.2
              refine ⟨x :: R, by rw [z1, z4]; rfl, fun y hy => ?_⟩
              rcases List.mem_cons.mp hy with rfl | hy
              · exact ⟨z2, z3⟩
              · exact z5 y hy
          obtain ⟨R, e8, e9⟩ := e7 rs q5
          subst e8
          refine ⟨R, Am, Wo, rfl, e4, e1, ⟨by omega, by omega, by simpa using q4, by rw [e5]; simp [lenT], fun x hx => ⟨by rw [(e9 x hx).1]; omega, (e9 x hx).2⟩, e6, e3⟩⟩
  · rintro ⟨R, Am, Wo, rfl, rfl, rfl, v⟩
    have h1 : okW (intsT Wo) = true := okW_tup.mpr ⟨by simpa using v.w1, by simpa using v.w2, areN_ints.mpr ⟨Wo, rfl, by simp, v.wb⟩⟩
    have h2 : okR (rowsT R) (lenT (intsT Wo)) = true := okR_tup.mpr ⟨by simpa using v.r1, by
      rw [List.all_eq_true]
      intro d hd
      obtain ⟨x, hx, rfl⟩ := List.mem_map.mp hd
      exact areN_ints.mpr ⟨x, rfl, by rw [(v.rr x hx).1]; simp [lenT], (v.rr x hx).2⟩⟩
    have h3 : areN (intsT Am) (lenT (rowsT R)) = true := areN_ints.mpr ⟨Am, rfl, by rw [v.a1]; simp [lenT], v.ab⟩
    unfold due
    rw [h1, if_pos rfl, h2, if_pos rfl, h3, if_pos rfl]
theorem gd_ints (is : List Int) : Gd (intsT is) := .tup fun d hd => by
  obtain ⟨i, _, rfl⟩ := List.mem_map.mp hd
  exact .one rfl fun _ z => by cases z
theorem sm_ints {is : List Int} (h : is.length ≤ 10000000) : Sm (intsT is) := fun ds e => by
  cases e; simpa using h
theorem Val.good {R : List (List Int)} {Am Wo : List Int} (v : Val R Am Wo) : Good (rowsT R) (intsT Am) (intsT Wo) where
  gr := .tup fun d hd => by
    obtain ⟨x, _, rfl⟩ := List.mem_map.mp hd
    exact gd_ints x
  ga := gd_ints Am
  gw := gd_ints Wo
  sr := fun ds e => by cases e; have := v.r1; simp; omega
  sa := sm_ints (by have := v.r1; have := v.a1; omega)
  sw := sm_ints (by have := v.w2; omega)
  si := fun rs e d hd => by
    cases e
    obtain ⟨x, hx, rfl⟩ := List.mem_map.mp hd
    exact sm_ints (by have := (v.rr x hx).1; have := v.w2; omega)
open PySem.W in
theorem eq3 (R R' : List (List Int)) (Am Am' Wo Wo' : List Int) : eqF (.tup [rowsT R, intsT Am, intsT Wo]) (.tup [rowsT R', intsT Am', intsT Wo']) = some (decide (R = R' ∧ Am = Am' ∧ Wo = Wo')) := by
  have h := eqF_enc (α := T3 (Tup (Tup Int)) (Tup Int) (Tup Int)) (by decide) ⟨⟨R.map Tup.mk⟩, ⟨Am⟩, ⟨Wo⟩⟩ ⟨⟨R'.map Tup.mk⟩, ⟨Am'⟩, ⟨Wo'⟩⟩
  have e : ∀ (R : List (List Int)) (Am Wo : List Int), enc (α := T3 (Tup (Tup Int)) (Tup Int) (Tup Int)) ⟨⟨R.map Tup.mk⟩, ⟨Am⟩, ⟨Wo⟩⟩ = .tup [rowsT R, intsT Am, intsT Wo] := fun R Am Wo => by
    show D.tup [D.tup ((R.map Tup.mk).map enc), D.tup (Am.map enc), D.tup (Wo.map enc)] = _
    rw [List.map_map]
    rfl
  rw [e, e] at h
  rw [h]
  have inj : ∀ {R R' : List (List Int)}, R.map Tup.mk = R'.map Tup.mk → R = R' := fun {R R'} e => by
    have := congrArg (List.map Tup.items) e
    simpa [List.map_map, Function.comp_def] using this
  congr 1
  refine decide_eq_decide.mpr ⟨fun e => ?_, fun ⟨a, b, c⟩ => by rw [a, b, c]⟩
  injection e with e1 e2 e3
  injection e1 with e1
  injection e2 with e2
  injection e3 with e3
  exact ⟨inj e1, e2, e3⟩
section
variable (A : Ad)
theorem k1 : (("amounts" : Str) == "rows") = false := by decide +kernel
theorem k2 : (("worths" : Str) == "rows") = false := by decide +kernel
theorem k3 : (("worths" : Str) == "amounts") = false := by decide +kernel
theorem fld_rows (r a w : D) (g : G) : fldS A.Task "rows" (.d (tsk A r a w)) g = .ok (.d r) g := by
  simp [tsk, List.lookup]
theorem fld_amounts (r a w : D) (g : G) : fldS A.Task "amounts" (.d (tsk A r a w)) g = .ok (.d a) g := by
  simp [tsk, List.lookup, k1]
theorem fld_worths (r a w : D) (g : G) : fldS A.Task "worths" (.d (tsk A r a w)) g = .ok (.d w) g := by
  simp [tsk, List.lookup, k2, k3]
theorem task_eq (R R' : List (List Int)) (Am Am' Wo Wo' : List Int) (g : G) : phi_Task___eq__ A [.d (tsk A (rowsT R) (intsT Am) (intsT Wo)), .d (tsk A (rowsT R') (intsT Am') (intsT Wo'))] g = .ok (.d (.bl (decide (R = R' ∧ Am = Am' ∧ Wo = Wo')))) g := by
  have e : isiS (isC A) [.d (tsk A (rowsT R') (intsT Am') (intsT Wo')), .d (.adr A.Task)] g = .ok (.d (.bl true)) g := by
    simp [isiS, isC, tsk]
  unfold phi_Task___eq__ d_Task___eq__ defD
  simp [-fldS, e, fld_rows, fld_amounts, fld_worths, eq3, finD]
theorem task_ne (x : D) (hx : ∃ T, tyD x = some T) (r a w : D) (g : G) : phi_Task___eq__ A [.d (tsk A r a w), .d x] g = .ok (.d (.bl false)) g := by
  have e : isiS (isC A) [.d x, .d (.adr A.Task)] g = .ok (.d (.bl false)) g := by
    obtain ⟨T, hT⟩ := hx
    simp [-tyD, isiS, isC, hT]
  unfold phi_Task___eq__ d_Task___eq__ defD
  simp [e, finD]
theorem eqX_task (x : D) (r a w : D) (g : G) (b : Bool) (hx : (∃ T, tyD x = some T) ∨ ∃ C fs, x = .ins C fs) (h : phi_Task___eq__ A [.d (tsk A r a w), .d x] g = .ok (.d (.bl b)) g) : eqX A.Task (phi_Task___eq__ A) (.d (tsk A r a w)) (.d x) g = .ok (.d (.bl b)) g := by
  have e : eqX A.Task (phi_Task___eq__ A) (.d (tsk A r a w)) (.d x) g = eqI A.Task (phi_Task___eq__ A) (.d (tsk A r a w)) (.d x) g := rfl
  rw [e]
  unfold eqI
  simp only [snap_d]
  show (if A.Task = A.Task then _ else _) = _
  rw [if_pos rfl]
  rcases hx with ⟨T, hT⟩ | ⟨C, fs, rfl⟩
  · simp only [hT]
    rw [h]; rfl
  · show asF _ = _
    rw [h]; rfl
end
end Lk24
namespace Lk24
open PySem PySem.Spec L2 DL
theorem Bd.nudge {i : Int} (h : Bd i) : Bd (i + 1 - 2 * (if 0 < i then 1 else 0)) := by
  unfold Bd M at *
  split <;> omega
theorem cut1 (x : D) (xs : List D) : cutL (x :: xs) (some 1) none = xs := by
  unfold cutL HT.sIx
  simp
section
variable (A : Ad)
theorem is_right_eq {r a w : D} (h : Good r a w) (hl : due r a w = "let" → lenT r ≤ 39) (g : G) : phi__law_is_right A [.d r, .d a, .d w] g = .ok (.d (.bl true)) g := by
  unfold phi__law_is_right d__law_is_right defD
  by_cases hd : due r a w = "let"
  · obtain ⟨R, Am, Wo, rfl, rfl, rfl, v⟩ := due_let.mp hd
    have hR := hl hd
    have hR' : R.length ≤ 39 := by simpa [lenT] using hR
    obtain ⟨w0, Wt, rfl⟩ : ∃ w0 Wt, Wo = w0 :: Wt := by
      cases Wo with
      | nil => exact absurd v.w1 (by simp)
      | cons a b => exact ⟨a, b, rfl⟩
    have h0 := v.wb w0 List.mem_cons_self
    have hm : lg 2 + lg (if 0 < w0 then 1 else 0) < 1000000 := by split <;> decide
    have v2 : Val R Am ((w0 + 1 - 2 * (if 0 < w0 then 1 else 0)) :: Wt) := ⟨v.w1, v.w2, v.r1, v.a1, v.rr, v.ab, fun i hi => by
      rcases List.mem_cons.mp hi with rfl | hi
      · exact h0.nudge
      · exact v.wb i (List.mem_cons_of_mem _ hi)⟩
    have v3 : Val (R ++ [w0 :: Wt]) (Am ++ [0]) (w0 :: Wt) := ⟨v.w1, v.w2, by simp; omega, by simp [v.a1], fun x hx => by
      rcases List.mem_append.mp hx with hx | hx
      · exact v.rr x hx
      · simp at hx
        subst hx
        exact ⟨rfl, v.wb⟩, fun i hi => by
      rcases List.mem_append.mp hi with hi | hi
      · exact v.ab i hi
      · simp at hi
        subst hi
        exact ⟨by decide, by decide⟩, v.wb⟩
    have d2 := due_let.mpr ⟨_, _, _, rfl, rfl, rfl, v2⟩
    have d3 := due_let.mpr ⟨_, _, _, rfl, rfl, rfl, v3⟩
    have t1 := told_eq A v.good
    have ne : ¬ w0 = w0 + 1 - 2 * (if 0 < w0 then 1 else 0) := by split <;> omega
    have c1 : ∀ (x y z : Option S) (g : G), frzD (makeC A.Task (phi_Task___init__ A) (consL (varD 0) (consL (varD 1) (consL (varD 2) nilL)))) [some (.d (rowsT R)), some (.d (intsT Am)), some (.d (intsT (w0 :: Wt))), x, y, z] g = .ok (.d (tsk A (rowsT R) (intsT Am) (intsT (w0 :: Wt)))) (g ++ [.dead]) := fun x y z g =>
      mk_eq A v.good hd (by simp)
    have c2 : ∀ (y z : Option S) (g : G), frzD (makeC A.Task (phi_Task___init__ A) (consL (varD 0) (consL (varD 1) (consL (varD 3) nilL)))) [some (.d (rowsT R)), some (.d (intsT Am)), some (.d (intsT (w0 :: Wt))), some (.d (intsT ((w0 + 1 - 2 * (if 0 < w0 then 1 else 0)) :: Wt))), y, z] g = .ok (.d (tsk A (rowsT R) (intsT Am) (intsT ((w0 + 1 - 2 * (if 0 < w0 then 1 else 0)) :: Wt)))) (g ++ [.dead]) := fun y z g =>
      mk_eq A v2.good d2 (by simp)
    have c3 : ∀ (x y z : Option S) (g : G), frzD (makeC A.Task (phi_Task___init__ A) (consL (bin2 (varD 0) (tupD (consL (varD 2) nilL)) addS) (consL (bin2 (varD 1) (tupD (consL (cD (.int 0)) nilL)) addS) (consL (varD 2) nilL)))) [some (.d (rowsT R)), some (.d (intsT Am)), some (.d (intsT (w0 :: Wt))), x, y, z] g = .ok (.d (tsk A (rowsT (R ++ [w0 :: Wt])) (intsT (Am ++ [0])) (intsT (w0 :: Wt)))) (g ++ [.dead]) := fun x y z g =>
      mk_eq A v3.good d3 (by
        have := v.a1
        simp [addS, rowsT, intsT]
        rw [if_pos (by omega)]
        simp
        rw [if_pos (by omega)]
        simp)
    have q1 : ∀ g, eqX A.Task (phi_Task___eq__ A) (.d (tsk A (rowsT R) (intsT Am) (intsT (w0 :: Wt)))) (.d (tsk A (rowsT R) (intsT Am) (intsT (w0 :: Wt)))) g = .ok (.d (.bl true)) g := fun g =>
      eqX_task A _ _ _ _ g _ (.inr ⟨_, _, rfl⟩) (by rw [task_eq]; simp)
    have q2 : ∀ g, eqX A.Task (phi_Task___eq__ A) (.d (tsk A (rowsT R) (intsT Am) (intsT (w0 :: Wt)))) (.d (.tup [rowsT R, intsT Am, intsT (w0 :: Wt)])) g = .ok (.d (.bl false)) g := fun g =>
      eqX_task A _ _ _ _ g _ (.inl ⟨_, rfl⟩) (task_ne A _ ⟨_, rfl⟩ _ _ _ g)
    have q3 : ∀ g, eqX A.Task (phi_Task___eq__ A) (.d (tsk A (rowsT R) (intsT Am) (intsT (w0 :: Wt)))) (.d (.int 0)) g = .ok (.d (.bl false)) g := fun g =>
      eqX_task A _ _ _ _ g _ (.inl ⟨_, rfl⟩) (task_ne A _ ⟨_, rfl⟩ _ _ _ g)
    have q4 : ∀ g, eqX A.Task (phi_Task___eq__ A) (.d (tsk A (rowsT R) (intsT Am) (intsT (w0 :: Wt)))) (.d (tsk A (rowsT R) (intsT Am) (intsT ((w0 + 1 - 2 * (if 0 < w0 then 1 else 0)) :: Wt)))) g = .ok (.d (.bl false)) g := fun g =>
      eqX_task A _ _ _ _ g _ (.inr ⟨_, _, rfl⟩) (by
        rw [task_eq]
        rw [decide_eq_false (fun z => ne (List.cons.inj z.2.2).1)])
    have q5 : ∀ g, eqX A.Task (phi_Task___eq__ A) (.d (tsk A (rowsT R) (intsT Am) (intsT (w0 :: Wt)))) (.d (tsk A (rowsT (R ++ [w0 :: Wt])) (intsT (Am ++ [0])) (intsT (w0 :: Wt)))) g = .ok (.d (.bl false)) g := fun g =>
      eqX_task A _ _ _ _ g _ (.inr ⟨_, _, rfl⟩) (by
        rw [task_eq]
        rw [decide_eq_false (fun z => by have := congrArg List.length z.1; simp at this)])
    have q6 := eq3 R R Am Am (w0 :: Wt) (w0 :: Wt)
    have q7 : ixS (.d (intsT (w0 :: Wt))) (.d (.int 0)) = fun g => .ok (.d (.int w0)) g := by
      funext g
      show (match atI (D.int w0 :: Wt.map D.int) 0 with | some x => DL.R.ok (S.d x) g | none => DL.R.bad) = _
      rw [atI0]
    have q8 : ∀ g, mulS (.d (.int 2)) (.d (.int (if 0 < w0 then 1 else 0))) g = .ok (.d (.int (2 * (if 0 < w0 then 1 else 0)))) g := fun g => mulS_int _ _ _ hm
    have q9 : ∀ (ρ : DL.Env) (g : G), ρ[2]? = some (some (.d (intsT (w0 :: Wt)))) → slD (varD 2) (someO (cD (.int 1))) noO ρ g = .ok (.d (.tup (Wt.map D.int))) g := fun ρ g hρ => by
      simp [slD, hρ, cut1]
    have q10 : ∀ g : G, addS (.d (.tup [.int (w0 + 1 - 2 * (if 0 < w0 then 1 else 0))])) (.d (.tup (Wt.map D.int))) g = .ok (.d (intsT ((w0 + 1 - 2 * (if 0 < w0 then 1 else 0)) :: Wt))) g := fun g => by
      have := v.w2
      simp only [List.length_cons] at this
      unfold addS
      dsimp only
      rw [if_pos (by rw [List.length_map]; show 1 + Wt.length ≤ 10000000; omega)]
      rfl
    simp [-frzD, -fldS, t1, toldV, hd, due_eq A v.good, o1, fld_rows, fld_amounts, fld_worths, c1, c2, c3, q1, q2, q3, q4, q5, q6, q7, q8, q9, q10, finD]
  · have t1 := told_eq A h
    simp [-frzD, -fldS, t1, toldV, hd, due_eq A h, due_ok, o1, finD]
end
end Lk24
namespace Lk24
open PySem PySem.Spec L2 DL
theorem take_tk {p n : Nat} {g g' : G} (k : Tk p n g g') : g'.take g.length = g' := List.take_of_length_le (by rw [k.len]; exact Nat.le_refl _)
theorem cutL_take {α : Type} (xs : List α) {v : Int} (h : 0 ≤ v) : cutL xs none (some v) = xs.take v.toNat := by
  unfold cutL HT.sIx
  simp only
  rw [if_neg (by omega), List.drop_zero, Nat.sub_zero]
  by_cases q : v.toNat ≤ xs.length
  · rw [Nat.min_eq_left q]
  · rw [Nat.min_eq_right (by omega), List.take_of_length_le (Nat.le_refl _), List.take_of_length_le (by omega)]
theorem cutL_drop {α : Type} (xs : List α) {v : Int} (h : 0 ≤ v) : cutL xs (some v) none = xs.drop v.toNat := by
  unfold cutL HT.sIx
  simp only
  rw [if_neg (by omega)]
  by_cases q : v.toNat ≤ xs.length
  · rw [Nat.min_eq_left q, List.take_of_length_le (by rw [List.length_drop]; omega)]
  · rw [Nat.min_eq_right (by omega), List.drop_of_length_le (Nat.le_refl _), List.drop_of_length_le (by omega)]; simp
structure Sz (k : Nat) (d : D) : Prop where
  g : Gd d
  l : lenT d ≤ k
  i : ∀ ds, d = .tup ds → ∀ x ∈ ds, lenT x ≤ 1000
theorem Sz.mono {k m : Nat} {d : D} (h : Sz k d) (hm : k ≤ m) : Sz m d := ⟨h.g, Nat.le_trans h.l hm, h.i⟩
theorem sm_len {d : D} (h : lenT d ≤ 1000) : Sm d := fun ds e => by
  subst e
  have : ds.length ≤ 1000 := h
  omega
theorem good_sz {r a w : D} {i j k : Nat} (hr : Sz i r) (ha : Sz j a) (hw : Sz k w) (hi : i ≤ 1000) (hj : j ≤ 1000) (hk : k ≤ 1000) : Good r a w :=
  ⟨hr.g, ha.g, hw.g, sm_len (Nat.le_trans hr.l hi), sm_len (Nat.le_trans ha.l hj), sm_len (Nat.le_trans hw.l hk), fun rs e d hd => sm_len (hr.i rs e d hd)⟩
theorem sz_atom {d : D} (h : ok1 d = true) (n : ∀ ds, d ≠ .tup ds) : Sz 0 d := ⟨.one h n, by
  cases d <;> first | exact Nat.le_refl _ | exact absurd rfl (n _), fun ds e => absurd e (n ds)⟩
theorem sz_one {d : D} {k : Nat} (h : Sz k d) (hk : k ≤ 1000) : Sz 1 (.tup [d]) := ⟨.tup fun x hx => by
  simp at hx; subst hx; exact h.g, Nat.le_refl _, fun ds e x hx => by
  cases e; simp at hx; subst hx; exact Nat.le_trans h.l hk⟩
theorem sz_nil : Sz 0 (.tup []) := ⟨.tup (fun x hx => by cases hx), Nat.le_refl _, fun ds e x hx => by cases e; cases hx⟩
theorem sz_int (i : Int) : Sz 0 (.int i) := sz_atom rfl fun _ z => by cases z
section
variable (A : Ad)
theorem draw_eq : phi__law_draw A = drawF := rfl
theorem pool_eq : phi__law_pool A = poolF := rfl
theorem number_ok {g : G} {p n : Nat} (T : TapeAt p (n + 3) g) : ∃ v g', phi__law_number A [.c p] g = .ok (.d (.int v)) g' ∧ Tk p n g g' ∧ Bd v := by
  obtain ⟨v1, g1, e1, k1, a1, b1⟩ := draw_ok T (m := 10000000000000000000000000000000000000001) (by decide) (by decide)
  obtain ⟨v2, g2, e2, k2, a2, b2⟩ := draw_ok (k1.at T) (m := 10000000000000000000000000000000000000001) (by decide) (by decide)
  obtain ⟨v3, g3, e3, k3, a3, b3⟩ := draw_ok (k2.at (k1.at T)) (m := 8) (by decide) (by decide)
  have kt : Tk p n g g3 := (k1.trans k2).trans k3
  have fin : ∀ v : Int, Bd v → ixS (.d (.lst [.int 0, .int 1, .int (-1), .int 7, .int M, .int (-M), .int v1, .int (-v2)])) (.d (.int v3)) g3 = .ok (.d (.int v)) g3 → ∃ v g', phi__law_number A [.c p] g = .ok (.d (.int v)) g' ∧ Tk p n g g' ∧ Bd v := fun v hv h => by
    refine ⟨v, g3, ?_, kt, hv⟩
    unfold phi__law_number d__law_number defD
    simp [draw_eq, e1, e2, e3]
    rw [h]
    simp [finD, take_tk kt]
  have hv : v3 = 0 ∨ v3 = 1 ∨ v3 = 2 ∨ v3 = 3 ∨ v3 = 4 ∨ v3 = 5 ∨ v3 = 6 ∨ v3 = 7 := by omega
  rcases hv with rfl | rfl | rfl | rfl | rfl | rfl | rfl | rfl
  · exact fin 0 ⟨by decide, by decide⟩ rfl
  · exact fin 1 ⟨by decide, by decide⟩ rfl
  · exact fin (-1) ⟨by decide, by decide⟩ rfl
  · exact fin 7 ⟨by decide, by decide⟩ rfl
  · exact fin M ⟨by decide, by decide⟩ rfl
  · exact fin (-M) ⟨by decide, by decide⟩ rfl
  · exact fin v1 ⟨by unfold M; omega, by unfold M; omega⟩ rfl
  · exact fin (-v2) ⟨by unfold M; omega, by unfold M; omega⟩ rfl
def nest : Nat → D
  | 0 => .tup [.int 0]
  | n + 1 => .tup [nest n]
theorem sz_nest : ∀ n, Sz 1 (nest n)
  | 0 => sz_one (sz_int 0) (by decide)
  | n + 1 => sz_one (sz_nest n) (by decide)
theorem deep_eq (g : G) : phi__law_deep A [] g = .ok (.d (nest 35)) g := by
  have e : d__law_deep A [none, none] g = .rt (.d (nest 35)) g := by rfl
  unfold phi__law_deep defD
  simp [e, finD]
theorem add_tup (xs ys : List D) (g : G) (h : xs.length + ys.length ≤ 10000000) : addS (.d (.tup xs)) (.d (.tup ys)) g = .ok (.d (.tup (xs ++ ys))) g := by
  unfold addS
  simp only
  rw [if_pos h]
theorem odd_here_ok {v : Int} (h0 : 0 ≤ v) (h1 : v < 10) : ∃ d, (∀ g : G, ixS (.d (.lst [.bl true, .bl false, .non, .str "1", .int 10000000000000000000000000000000000000001, .int (-10000000000000000000000000000000000000001), .tup [.int 1], .int 0, .lst [.int 1], nest 35])) (.d (.int v)) g = .ok (.d d) g) ∧ Sz 1 d := by
  have hv : v = 0 ∨ v = 1 ∨ v = 2 ∨ v = 3 ∨ v = 4 ∨ v = 5 ∨ v = 6 ∨ v = 7 ∨ v = 8 ∨ v = 9 := by omega
  rcases hv with rfl | rfl | rfl | rfl | rfl | rfl | rfl | rfl | rfl | rfl
  · exact ⟨_, fun g => rfl, (sz_atom rfl fun _ z => by cases z).mono (by decide)⟩
  · exact ⟨_, fun g => rfl, (sz_atom rfl fun _ z => by cases z).mono (by decide)⟩
  · exact ⟨_, fun g => rfl, (sz_atom rfl fun _ z => by cases z).mono (by decide)⟩
  · exact ⟨_, fun g => rfl, (sz_atom rfl fun _ z => by cases z).mono (by decide)⟩
  · exact ⟨_, fun g => rfl, (sz_atom rfl fun _ z => by cases z).mono (by decide)⟩
  · exact ⟨_, fun g => rfl, (sz_atom rfl fun _ z => by cases z).mono (by decide)⟩
  · exact ⟨_, fun g => rfl, sz_one (sz_int 1) (by decide)⟩
  · exact ⟨_, fun g => rfl, (sz_atom rfl fun _ z => by cases z).mono (by decide)⟩
  · exact ⟨_, fun g => rfl, (sz_atom rfl fun _ z => by cases z).mono (by decide)⟩
  · exact ⟨_, fun g => rfl, sz_nest 35⟩
theorem sz_parts {k : Nat} {ds : List D} (h : Sz k (.tup ds)) {es : List D} {o : D} (ho : Sz 1 o) (hm : ∀ x ∈ es, x ∈ ds ∨ x = o) (hl : es.length ≤ ds.length + 1) : Sz (ds.length + 1) (.tup es) :=
  ⟨.tup fun x hx => by
    rcases hm x hx with q | rfl
    · exact h.g.items x q
    · exact ho.g, hl, fun fs e x hx => by
    cases e
    rcases hm x hx with q | rfl
    · exact h.i ds rfl x q
    · exact Nat.le_trans ho.l (by decide)⟩
theorem bent_ok {g : G} {p n k : Nat} (T : TapeAt p (n + 3) g) {ds : List D} (h : Sz k (.tup ds)) (hk : k ≤ 1000) : ∃ d g', phi__law_bent A [.c p, .d (.tup ds)] g = .ok (.d d) g' ∧ Tk p n g g' ∧ Sz (ds.length + 1) d := by
  have hlen : ds.length ≤ 1000 := Nat.le_trans h.l hk
  obtain ⟨v1, g1, e1, k1, a1, b1⟩ := draw_ok T (m := (ds.length : Int) + 1) (by omega) (Nat.lt_of_le_of_lt (lg_le (k := 11) (by omega)) (by decide))
  obtain ⟨v2, g2, e2, k2, a2, b2⟩ := draw_ok (k1.at T) (m := 10) (by decide) (by decide)
  obtain ⟨v3, g3, e3, k3, a3, b3⟩ := draw_ok (k2.at (k1.at T)) (m := 5) (by decide) (by decide)
  have kt : Tk p n g g3 := (k1.trans k2).trans k3
  obtain ⟨o, ho, so⟩ := odd_here_ok a2 b2
  have sl1 : ∀ (ρ : DL.Env) (g : G), ρ[1]? = some (some (.d (.tup ds))) → ρ[2]? = some (some (.d (.int v1))) → slD (varD 1) noO (someO (varD 2)) ρ g = .ok (.d (.tup (ds.take v1.toNat))) g := fun ρ g q1 q2 => by
    simp [slD, q1, q2, cutL_take _ a1]
  have sl2 : ∀ (ρ : DL.Env) (g : G), ρ[1]? = some (some (.d (.tup ds))) → ρ[2]? = some (some (.d (.int v1))) → slD (varD 1) (someO (varD 2)) noO ρ g = .ok (.d (.tup (ds.drop v1.toNat))) g := fun ρ g q1 q2 => by
    simp [slD, q1, q2, cutL_drop _ a1]
  have sl3 : ∀ (ρ : DL.Env) (g : G), ρ[1]? = some (some (.d (.tup ds))) → ρ[2]? = some (some (.d (.int v1))) → slD (varD 1) (someO (bin2 (varD 2) (cD (.int 1)) addS)) noO ρ g = .ok (.d (.tup (ds.drop (v1 + 1).toNat))) g := fun ρ g q1 q2 => by
    simp [slD, q1, q2, cutL_drop _ (show 0 ≤ v1 + 1 by omega)]
  have A1 : ∀ g, addS (.d (.tup (ds.take v1.toNat))) (.d (.tup [o])) g = .ok (.d (.tup (ds.take v1.toNat ++ [o]))) g := fun g => add_tup _ _ g (by rw [List.length_take]; simp; omega)
  have A2 : ∀ g, addS (.d (.tup (ds.take v1.toNat ++ [o]))) (.d (.tup (ds.drop v1.toNat))) g = .ok (.d (.tup (ds.take v1.toNat ++ [o] ++ ds.drop v1.toNat))) g := fun g => add_tup _ _ g (by rw [List.length_append, List.length_take, List.length_drop]; simp; omega)
  have A3 : ∀ g, addS (.d (.tup (ds.take v1.toNat))) (.d (.tup (ds.drop (v1 + 1).toNat))) g = .ok (.d (.tup (ds.take v1.toNat ++ ds.drop (v1 + 1).toNat))) g := fun g => add_tup _ _ g (by rw [List.length_take, List.length_drop]; omega)
  have A4 : ∀ g, addS (.d (.tup (ds.take v1.toNat ++ [o]))) (.d (.tup (ds.drop (v1 + 1).toNat))) g = .ok (.d (.tup (ds.take v1.toNat ++ [o] ++ ds.drop (v1 + 1).toNat))) g := fun g => add_tup _ _ g (by rw [List.length_append, List.length_take, List.length_drop]; simp; omega)
  have mt : ∀ x ∈ ds.take v1.toNat, x ∈ ds := fun x hx => List.mem_of_mem_take hx
  have md : ∀ j, ∀ x ∈ ds.drop j, x ∈ ds := fun j x hx => List.mem_of_mem_drop hx
  by_cases w0 : v3 = 0
  · subst w0
    refine ⟨_, g3, ?_, kt, sz_parts (es := ds.take v1.toNat ++ [o] ++ ds.drop v1.toNat) h so (fun x hx => ?_) ?_⟩
    · unfold phi__law_bent d__law_bent defD
      simp [draw_eq, e1, e2, e3, deep_eq, ho, sl1, sl2, A1, A2, finD, take_tk kt]
    · rcases List.mem_append.mp hx with hx | hx
      · rcases List.mem_append.mp hx with hx | hx
        · exact .inl (mt x hx)
        · simp at hx; exact .inr hx
      · exact .inl (md _ x hx)
    · rw [List.length_append, List.length_append, List.length_take, List.length_drop]; simp; omega
  · by_cases w1 : v3 = 1
    · subst w1
      refine ⟨_, g3, ?_, kt, sz_parts (es := ds.take v1.toNat ++ ds.drop (v1 + 1).toNat) h so (fun x hx => ?_) ?_⟩
      · unfold phi__law_bent d__law_bent defD
        simp [draw_eq, e1, e2, e3, deep_eq, ho, sl1, sl3, A3, finD, take_tk kt]
      · rcases List.mem_append.mp hx with hx | hx
        · exact .inl (mt x hx)
        · exact .inl (md _ x hx)
      · rw [List.length_append, List.length_take, List.length_drop]; omega
    · by_cases w2 : v3 = 2
      · subst w2
        refine ⟨.lst ds, g3, ?_, kt, (sz_atom rfl fun _ z => by cases z).mono (Nat.zero_le _)⟩
        unfold phi__law_bent d__law_bent defD
        simp [draw_eq, e1, e2, e3, deep_eq, ho, lstC, rd1, finD, take_tk kt]
      · refine ⟨_, g3, ?_, kt, sz_parts (es := ds.take v1.toNat ++ [o] ++ ds.drop (v1 + 1).toNat) h so (fun x hx => ?_) ?_⟩
        · unfold phi__law_bent d__law_bent defD
          simp [draw_eq, e1, e2, e3, deep_eq, ho, sl1, sl3, A1, A4, w0, w1, w2, finD, take_tk kt]
        · rcases List.mem_append.mp hx with hx | hx
          · rcases List.mem_append.mp hx with hx | hx
            · exact .inl (mt x hx)
            · simp at hx; exact .inr hx
          · exact .inl (md _ x hx)
        · rw [List.length_append, List.length_append, List.length_take, List.length_drop]; simp; omega
end
end Lk24
namespace Lk24
open PySem PySem.Spec L2 DL
theorem atI_get {α : Type} (xs : List α) {v : Int} (h0 : 0 ≤ v) (h1 : v < xs.length) : atI xs v = xs[v.toNat]? := by
  unfold atI ixN
  rw [if_pos h0, if_pos h1]
  rfl
theorem sz_parts2 {k j : Nat} {ds : List D} (h : Sz k (.tup ds)) {es : List D} {o : D} (ho : Sz j o) (hj : j ≤ 1000) (hm : ∀ x ∈ es, x ∈ ds ∨ x = o) (hl : es.length ≤ ds.length + 1) : Sz (ds.length + 1) (.tup es) :=
  ⟨.tup fun x hx => by
    rcases hm x hx with q | rfl
    · exact h.g.items x q
    · exact ho.g, hl, fun fs e x hx => by
    cases e
    rcases hm x hx with q | rfl
    · exact h.i ds rfl x q
    · exact Nat.le_trans ho.l hj⟩
theorem sz_ints (is : List Int) : Sz is.length (intsT is) := ⟨gd_ints is, by simp [lenT], fun ds e x hx => by
  cases e
  obtain ⟨i, _, rfl⟩ := List.mem_map.mp hx
  exact Nat.zero_le _⟩
theorem sz_rows {R : List (List Int)} (h : ∀ x ∈ R, x.length ≤ 100) : Sz R.length (rowsT R) := ⟨.tup fun d hd => by
    obtain ⟨x, _, rfl⟩ := List.mem_map.mp hd
    exact gd_ints x, by simp [lenT], fun ds e d hd => by
  cases e
  obtain ⟨x, hx, rfl⟩ := List.mem_map.mp hd
  have := h x hx
  simp [lenT]; omega⟩
section
variable (A : Ad)
theorem bent_rows_ok {g : G} {p n : Nat} (T : TapeAt p (n + 5) g) {R : List (List Int)} (hR : R.length ≤ 100) (h : ∀ x ∈ R, x.length ≤ 100) : ∃ d g', phi__law_bent_rows A [.c p, .d (rowsT R)] g = .ok (.d d) g' ∧ Tk p n g g' ∧ Sz (R.length + 1) d := by
  have sR := sz_rows h
  by_cases h0 : (0 : Int) < R.length
  · obtain ⟨v1, g1, e1, k1, a1, b1⟩ := draw_ok T (m := 2) (by decide) (by decide)
    by_cases hv : v1 = 0
    · obtain ⟨v2, g2, e2, k2, a2, b2⟩ := draw_ok (k1.at T) (m := (R.length : Int)) h0 (Nat.lt_of_le_of_lt (lg_le (k := 11) (by omega)) (by decide))
      have hlt : v2.toNat < R.length := by omega
      have hx : R[v2.toNat] ∈ R := List.getElem_mem hlt
      obtain ⟨b, g3, e3, k3, s3⟩ := bent_ok A (n := n) (k2.at (k1.at T)) (sz_ints R[v2.toNat]) (Nat.le_trans (h _ hx) (by decide))
      have kt : Tk p n g g3 := (k1.trans k2).trans k3
      have ix : ∀ g : G, ixS (.d (rowsT R)) (.d (.int v2)) g = .ok (.d (intsT R[v2.toNat])) g := fun g => by
        show (match atI (R.map intsT) v2 with | some x => DL.R.ok (S.d x) g | none => DL.R.bad) = _
        rw [atI_get _ a2 (by simpa using b2)]
        simp [hlt]
      have A1 : ∀ g, addS (.d (.tup ((R.map intsT).take v2.toNat))) (.d (.tup [b])) g = .ok (.d (.tup ((R.map intsT).take v2.toNat ++ [b]))) g := fun g => add_tup _ _ g (by rw [List.length_take]; simp; omega)
      have A2 : ∀ g, addS (.d (.tup ((R.map intsT).take v2.toNat ++ [b]))) (.d (.tup ((R.map intsT).drop (v2 + 1).toNat))) g = .ok (.d (.tup ((R.map intsT).take v2.toNat ++ [b] ++ (R.map intsT).drop (v2 + 1).toNat))) g := fun g => add_tup _ _ g (by rw [List.length_append, List.length_take, List.length_drop]; simp; omega)
      have sl1 : ∀ (ρ : DL.Env) (g : G), ρ[1]? = some (some (.d (rowsT R))) → ρ[2]? = some (some (.d (.int v2))) → slD (varD 1) noO (someO (varD 2)) ρ g = .ok (.d (.tup ((R.map intsT).take v2.toNat))) g := fun ρ g q1 q2 => by
        simp [-List.map_take, slD, q1, q2, cutL_take _ a2]
      have sl3 : ∀ (ρ : DL.Env) (g : G), ρ[1]? = some (some (.d (rowsT R))) → ρ[2]? = some (some (.d (.int v2))) → slD (varD 1) (someO (bin2 (varD 2) (cD (.int 1)) addS)) noO ρ g = .ok (.d (.tup ((R.map intsT).drop (v2 + 1).toNat))) g := fun ρ g q1 q2 => by
        simp [-List.map_drop, slD, q1, q2, cutL_drop _ (show 0 ≤ v2 + 1 by omega)]
      refine ⟨.tup ((R.map intsT).take v2.toNat ++ [b] ++ (R.map intsT).drop (v2 + 1).toNat), g3, ?_, kt, ?_⟩
      · unfold phi__law_bent_rows d__law_bent_rows defD
        subst hv
        have h0n : 0 < R.length := by omega
        simp [-List.map_take, -List.map_drop, -List.append_assoc, draw_eq, e1, h0n, e2, ix, e3, sl1, sl3, A1, A2, finD, take_tk kt]
      · have := sz_parts2 (es := (R.map intsT).take v2.toNat ++ [b] ++ (R.map intsT).drop (v2 + 1).toNat) sR s3 (by have := h _ hx; simp; omega) (fun x hx => by
          rcases List.mem_append.mp hx with hx | hx
          · rcases List.mem_append.mp hx with hx | hx
            · exact .inl (List.mem_of_mem_take hx)
            · simp at hx; exact .inr hx
          · exact .inl (List.mem_of_mem_drop hx)) (by rw [List.length_append, List.length_append, List.length_take, List.length_drop]; simp; omega)
        simpa using this
    · obtain ⟨d, g2, e2, k2, s2⟩ := bent_ok A (n := n) ((k1.at T).mono (by omega)) sR (by omega)
      have kt : Tk p n g g2 := k1.trans k2
      refine ⟨d, g2, ?_, kt, by simpa using s2⟩
      unfold phi__law_bent_rows d__law_bent_rows defD
      have h0n : 0 < R.length := by omega
      simp [draw_eq, e1, h0n, hv, e2, finD, take_tk kt]
  · obtain ⟨d, g2, e2, k2, s2⟩ := bent_ok A (n := n) (T.mono (by omega)) sR (by omega)
    refine ⟨d, g2, ?_, k2, by simpa using s2⟩
    unfold phi__law_bent_rows d__law_bent_rows defD
    have h0n : ¬ 0 < R.length := by omega
    simp only [seqS, ifS, andB, asB, bin2, cbD, consL, nilL, varD, cD, List.map, List.replicate, List.append, un1, snap_d, lenD, opD, gtD_i, DL.R.bind_ok, List.length_map]
    simp [h0n, e2, finD, take_tk k2]
/-! ### the odd ones -/
def oddL : List D := [.non, .bl true, .bl false, .int 0, .str "", .str "rows", .lst [], .lst [.int 1], .dct [], .tup [], .tup [.int 0], .tup [.tup []], .tup [.tup [.int 0]], .tup [.bl true], .tup [.str "0"], .tup [.non], .dct [(Sum.inl 0, .int 1)],
  .tup [.int 10000000000000000000000000000000000000001], .tup [.int (-10000000000000000000000000000000000000001)], nest 35, tsk A (.tup []) (.tup []) (.tup [.int 1]), .tup [tsk A (.tup []) (.tup []) (.tup [.int 1])]]
theorem sz_odd : ∀ d ∈ oddL A, Sz 1 d := by
  intro d hd
  simp only [oddL, List.mem_cons, List.not_mem_nil, or_false] at hd
  have at1 : ∀ {d : D}, ok1 d = true → (∀ ds, d ≠ .tup ds) → Sz 1 d := fun h n => (sz_atom h n).mono (by decide)
  rcases hd with rfl | rfl | rfl | rfl | rfl | rfl | rfl | rfl | rfl | rfl | rfl | rfl | rfl | rfl | rfl | rfl | rfl | rfl | rfl | rfl | rfl | rfl
  · exact at1 rfl fun _ z => by cases z
  · exact at1 rfl fun _ z => by cases z
  · exact at1 rfl fun _ z => by cases z
  · exact at1 rfl fun _ z => by cases z
  · exact at1 rfl fun _ z => by cases z
  · exact at1 rfl fun _ z => by cases z
  · exact at1 rfl fun _ z => by cases z
  · exact at1 rfl fun _ z => by cases z
  · exact at1 rfl fun _ z => by cases z
  · exact sz_nil.mono (by decide)
  · exact sz_one (sz_int 0) (by decide)
  · exact sz_one sz_nil (by decide)
  · exact sz_one (sz_one (sz_int 0) (by decide)) (by decide)
  · exact sz_one (sz_atom rfl fun _ z => by cases z) (by decide)
  · exact sz_one (sz_atom rfl fun _ z => by cases z) (by decide)
  · exact sz_one (sz_atom rfl fun _ z => by cases z) (by decide)
  · exact at1 rfl fun _ z => by cases z
  · exact sz_one (sz_int _) (by decide)
  · exact sz_one (sz_int _) (by decide)
  · exact sz_nest 35
  · exact at1 rfl fun _ z => by cases z
  · exact sz_one (sz_atom rfl fun _ z => by cases z) (by decide)
theorem odd_ok {g : G} {p n : Nat} (T : TapeAt p (n + 1) g) : ∃ d g', phi__law_odd A [.c p] g = .ok (.d d) g' ∧ Tk p n g g' ∧ Sz 1 d := by
  have v : Val [] [] [1] := ⟨by decide, by decide, by decide, rfl, by simp, by simp, fun i hi => by
    simp at hi; subst hi; exact ⟨by decide, by decide⟩⟩
  have hd := due_let.mpr ⟨_, _, _, rfl, rfl, rfl, v⟩
  have mk : ∀ (ρ : DL.Env) (g : G), frzD (makeC A.Task (phi_Task___init__ A) (consL (tupD nilL) (consL (tupD nilL) (consL (tupD (consL (cD (.int 1)) nilL)) nilL)))) ρ g = .ok (.d (tsk A (.tup []) (.tup []) (.tup [.int 1]))) (g ++ [.dead]) := fun ρ g => mk_eq A v.good hd (by simp)
  obtain ⟨v1, g1, e1, k1, a1, b1⟩ := draw_ok ((T.app (r := [Cell.dead])).app (r := [Cell.dead])) (m := 22) (by decide) (by decide)
  have hlt := T.lt
  obtain ⟨g2, rfl, k2⟩ := k1.app (by rw [List.length_append]; omega)
  obtain ⟨g3, rfl, k3⟩ := k2.app hlt
  have hv : v1.toNat < (oddL A).length := by
    have : (oddL A).length = 22 := rfl
    omega
  refine ⟨(oddL A)[v1.toNat], g3, ?_, k3, sz_odd A _ (List.getElem_mem hv)⟩
  have ix : ∀ g : G, ixS (.d (.lst (oddL A))) (.d (.int v1)) g = .ok (.d (oddL A)[v1.toNat]) g := fun g => by
    show (match atI (oddL A) v1 with | some x => DL.R.ok (S.d x) g | none => DL.R.bad) = _
    rw [atI_get _ a1 (by show v1 < ((22 : Nat) : Int); omega)]
    simp [hv]
  have ad : ∀ (g : G), addS (.d (.lst [.non, .bl true, .bl false, .int 0, .str "", .str "rows", .lst [], .lst [.int 1], .dct [], .tup [], .tup [.int 0], .tup [.tup []], .tup [.tup [.int 0]], .tup [.bl true], .tup [.str "0"], .tup [.non], .dct [(Sum.inl 0, .int 1)]])) (.d (.lst [.tup [.int 10000000000000000000000000000000000000001], .tup [.int (-10000000000000000000000000000000000000001)], nest 35, tsk A (.tup []) (.tup []) (.tup [.int 1]), .tup [tsk A (.tup []) (.tup []) (.tup [.int 1])]])) g = .ok (.d (.lst (oddL A))) g := fun g => rfl
  have ln : lenD (.lst (oddL A)) = some (.int 22) := rfl
  have tk : (g3 ++ [Cell.dead] ++ [Cell.dead]).take g.length = g3 := by
    rw [List.append_assoc, List.take_append_of_le_length (by rw [k3.len]; exact Nat.le_refl _), take_tk k3]
  unfold phi__law_odd d__law_odd defD
  simp [-lenD, -frzD, -List.append_assoc, draw_eq, deep_eq, mk, ad, ln, e1, ix, finD, tk]
/-! ### rows of numbers -/
theorem ints_of (xs : List D) (h : ∀ x ∈ xs, ∃ i, x = .int i ∧ Bd i) : ∃ is : List Int, xs = is.map D.int ∧ is.length = xs.length ∧ ∀ i ∈ is, Bd i := by
  induction xs with
  | nil => exact ⟨[], rfl, rfl, by simp⟩
  | cons x xs ih =>
    obtain ⟨i, rfl, hi⟩ := h x List.mem_cons_self
    obtain ⟨is, rfl, h1, h2⟩ := ih fun y hy => h y (List.mem_cons_of_mem _ hy)
    exact ⟨i :: is, rfl, by simp, fun j hj => by
      rcases List.mem_cons.mp hj with rfl | hj
      · exact hi
      · exact h2 j hj⟩
theorem numbers_ok {it : DE (List D)} {vs : List Nat} {j : Nat} {el : DE S} {ρ : DL.Env} {g : G} {ds : List D} {p m : Nat} (hi : it ρ g = .ok ds g) (T : TapeAt p (3 * ds.length + m) g) (hel : ∀ d g, el ((wipeE ρ vs).set j (some (.d d))) g = phi__law_number A [.c p] g) (hl : ds.length ≤ 1000) :
    ∃ (is : List Int) (g' : G), compD it vs (nameG j) yesB el ρ g = .ok (.d (.lst (is.map D.int))) g' ∧ Tk p m g g' ∧ is.length = ds.length ∧ ∀ i ∈ is, Bd i := by
  obtain ⟨xs, g', e, q1, q2, q3, q4⟩ := compD_st (it := it) (vs := vs) (h := nameG j) (t := yesB) (el := el) (ρ := ρ) (I := fun k g' => Tk p (3 * k + m) g g') (P := fun x => ∃ i, x = .int i ∧ Bd i) hi (Tk.refl T) (fun d hd k acc g1 hg hI => by
    have T1 : TapeAt p ((3 * k + m) + 3) g1 := by
      have := hI.at T
      rw [show 3 * (k + 1) + m = 3 * k + m + 3 by omega] at this
      exact this
    obtain ⟨v, g2, e2, k2, b2⟩ := number_ok A (T1.app (r := [.lst acc]))
    obtain ⟨g3, rfl, k3⟩ := k2.app T1.lt
    refine ⟨_, .int v, g3, rfl, rfl, ?_, by rw [k3.len, hg], hI.trans k3, v, rfl, b2⟩
    rw [hel, e2]) (by omega)
  obtain ⟨is, rfl, h1, h2⟩ := ints_of xs q4
  exact ⟨is, g', e, by simpa using q2, by rw [h1, q3], h2⟩
end
end Lk24
namespace Lk24
open PySem PySem.Spec L2 DL
def Nx (o : O) (J : DL.Env → G → Prop) : Prop := ∃ ρ g, o = .nx ρ g ∧ J ρ g
theorem nx_seq {k1 k2 : DS} {ρ : DL.Env} {g : G} {P J : DL.Env → G → Prop} (h1 : Nx (k1 ρ g) P) (h2 : ∀ ρ1 g1, P ρ1 g1 → Nx (k2 ρ1 g1) J) : Nx (seqS k1 k2 ρ g) J := by
  obtain ⟨ρ1, g1, e, p⟩ := h1
  have : seqS k1 k2 ρ g = k2 ρ1 g1 := by simp [e]
  rw [this]
  exact h2 ρ1 g1 p
theorem nx_asg {i : Nat} {f : DE S} {ρ : DL.Env} {g g1 : G} {s : S} {J : DL.Env → G → Prop} (h : f ρ g = .ok s g1) (j : J (ρ.set i (some s)) g1) : Nx (asgS i f ρ g) J := ⟨ρ.set i (some s), g1, by simp [h], j⟩
theorem nx_if {t : DE Bool} {k1 k2 : DS} {b : Bool} {ρ : DL.Env} {g g1 : G} {J : DL.Env → G → Prop} (h : t ρ g = .ok b g1) (h1 : b = true → Nx (k1 ρ g1) J) (h2 : b = false → Nx (k2 ρ g1) J) : Nx (ifS t k1 k2 ρ g) J := by
  have : ifS t k1 k2 ρ g = if b then k1 ρ g1 else k2 ρ g1 := by simp [h]
  rw [this]
  cases b with
  | true => exact h1 rfl
  | false => exact h2 rfl
theorem nx_next {ρ : DL.Env} {g : G} {J : DL.Env → G → Prop} (j : J ρ g) : Nx (nextS ρ g) J := ⟨ρ, g, rfl, j⟩
theorem nx_put {fo fi fv : DE S} {ρ : DL.Env} {g g1 g2 g3 g4 : G} {v o i : S} {J : DL.Env → G → Prop} (hv : fv ρ g = .ok v g1) (ho : fo ρ g1 = .ok o g2) (hi : fi ρ g2 = .ok i g3) (hp : putS v o i g3 = some g4) (j : J ρ g4) : Nx (putSt fo fi fv ρ g) J :=
  ⟨ρ, g4, by simp [putSt, hv, ho, hi, hp], j⟩
def Ev (ρ : DL.Env) (l : List (Nat × S)) : Prop := ρ.length = 14 ∧ ∀ q ∈ l, ρ[q.1]? = some (some q.2)
theorem Ev.set {ρ : DL.Env} {l : List (Nat × S)} {i : Nat} {s : S} (h : Ev ρ l) (hi : i < 14) (hl : ∀ q ∈ l, q.1 ≠ i) : Ev (ρ.set i (some s)) ((i, s) :: l) := by
  refine ⟨by rw [List.length_set]; exact h.1, fun q hq => ?_⟩
  rcases List.mem_cons.mp hq with rfl | hq
  · exact List.getElem?_set_self (by rw [h.1]; exact hi)
  · rw [List.getElem?_set_ne (Ne.symm (hl q hq))]; exact h.2 q hq
theorem Ev.sub {ρ : DL.Env} {l l' : List (Nat × S)} (h : Ev ρ l) (hl : ∀ q ∈ l', q ∈ l) : Ev ρ l' := ⟨h.1, fun q hq => h.2 q (hl q hq)⟩
theorem Ev.get {ρ : DL.Env} {l : List (Nat × S)} (h : Ev ρ l) (i : Nat) (s : S) (hm : (i, s) ∈ l) : ρ[i]? = some (some s) := h.2 _ hm
theorem Ev.wipe {ρ : DL.Env} {l : List (Nat × S)} {i j : Nat} {s : S} (h : Ev ρ l) (hi : i < 14) (hl : ∀ q ∈ l, q.1 ≠ i) : Ev ((wipeE ρ [i]).set i (some s)) ((i, s) :: l) := by
  refine ⟨by simp [h.1], fun q hq => ?_⟩
  rcases List.mem_cons.mp hq with rfl | hq
  · exact List.getElem?_set_self (by simp [h.1]; exact hi)
  · rw [List.getElem?_set_ne (Ne.symm (hl q hq))]
    simp only [wipeE_cons, wipeE_nil]
    rw [List.getElem?_set_ne (Ne.symm (hl q hq))]
    exact h.2 q hq
def St (n : Nat) (g : G) : Prop := TapeAt 1 n g ∧ 2 ≤ g.length
theorem St.tk {n m : Nat} {g g' : G} (h : St m g) (k : Tk 1 n g g') : St n g' := ⟨k.at h.1, by rw [k.len]; exact h.2⟩
section
variable (A : Ad)
theorem tup_of (xs : List D) (g : G) : tupC [.d (.lst xs)] g = .ok (.d (.tup xs)) g := rfl
/-- one row -/
theorem c1_ok {ρ : DL.Env} {pl : Int} {l : List (Nat × S)} (h : Ev ρ ((4, .d (.int pl)) :: (1, .c 1) :: l)) (hl : ∀ q ∈ l, q.1 ≠ 12) {k m : Nat} (hp : pl = (k : Int)) (hk : k ≤ 100) {g : G} (T : TapeAt 1 (3 * k + m) g) :
    (∃ (is : List Int) (g' : G), d_law_c1 A ρ g = .ok (.d (.lst (is.map D.int))) g' ∧ Tk 1 m g g' ∧ is.length = k ∧ ∀ i ∈ is, Bd i) ∧ ∃ (is : List Int) (g' : G), d_law_c7 A ρ g = .ok (.d (.lst (is.map D.int))) g' ∧ Tk 1 m g g' ∧ is.length = k ∧ ∀ i ∈ is, Bd i := by
  obtain ⟨ds, e, hd⟩ := range_ok hp (by omega) (f := varD 4) (ρ := ρ) (g := g) (by simp [h.get 4 (.d (.int pl)) (by simp)])
  have he : ∀ (d : D) (g : G), callD (phi__law_number A) (consL (varD 1) nilL) ((wipeE ρ [12]).set 12 (some (.d d))) g = phi__law_number A [.c 1] g := fun d g => by
    have := (h.wipe (i := 12) (j := 0) (s := .d d) (by decide) (by
      intro q hq
      rcases List.mem_cons.mp hq with rfl | hq
      · simp
      · rcases List.mem_cons.mp hq with rfl | hq
        · simp
        · exact hl q hq)).get 1 (.c 1) (by simp)
    simp only [callD, consL, nilL, varD, this, R.bind_ok]
  refine ⟨?_, ?_⟩
  · obtain ⟨is, g', e1, k1, q1, b1⟩ := numbers_ok A (m := m) (el := d_law_c1e A) e (by rw [hd]; exact T) he (by omega)
    exact ⟨is, g', e1, k1, by rw [q1, hd], b1⟩
  · obtain ⟨is, g', e1, k1, q1, b1⟩ := numbers_ok A (m := m) (el := d_law_c7e A) e (by rw [hd]; exact T) he (by omega)
    exact ⟨is, g', e1, k1, by rw [q1, hd], b1⟩
theorem rows_of (k : Nat) (xs : List D) (h : ∀ x ∈ xs, ∃ is : List Int, x = intsT is ∧ is.length = k ∧ ∀ i ∈ is, Bd i) : ∃ R : List (List Int), xs = R.map intsT ∧ R.length = xs.length ∧ ∀ x ∈ R, x.length = k ∧ ∀ i ∈ x, Bd i := by
  induction xs with
  | nil => exact ⟨[], rfl, rfl, by simp⟩
  | cons x xs ih =>
    obtain ⟨is, rfl, h1, h2⟩ := h x List.mem_cons_self
    obtain ⟨R, rfl, h3, h4⟩ := ih fun y hy => h y (List.mem_cons_of_mem _ hy)
    exact ⟨is :: R, rfl, by simp, fun j hj => by
      rcases List.mem_cons.mp hj with rfl | hj
      · exact ⟨h1, h2⟩
      · exact h4 j hj⟩
theorem c3_ok {ρ : DL.Env} {pl many : Int} (h : Ev ρ [(4, .d (.int pl)), (1, .c 1), (5, .d (.int many))]) {k w m : Nat} (hp : pl = (k : Int)) (hk : k ≤ 100) (hw : many = (w : Int)) (hw2 : w ≤ 100) {g : G} (T : TapeAt 1 (3 * k * w + m) g) :
    ∃ (R : List (List Int)) (g' : G), d_law_c3 A ρ g = .ok (.d (.lst (R.map intsT))) g' ∧ Tk 1 m g g' ∧ R.length = w ∧ ∀ x ∈ R, x.length = k ∧ ∀ i ∈ x, Bd i := by
  obtain ⟨ds, e, hd⟩ := range_ok hw (by omega) (f := varD 5) (ρ := ρ) (g := g) (by simp [h.get 5 (.d (.int many)) (by simp)])
  obtain ⟨xs, g', e1, q1, q2, q3, q4⟩ := compD_st (it := range1 (consL (varD 5) nilL)) (vs := [13]) (h := nameG 13) (t := yesB) (el := d_law_c3e A) (ρ := ρ) (I := fun j g' => Tk 1 (3 * k * j + m) g g') (P := fun x => ∃ is : List Int, x = intsT is ∧ is.length = k ∧ ∀ i ∈ is, Bd i) e (Tk.refl (by rw [hd]; exact T)) (fun d hd' j acc g1 hg hI => by
    have T1 : TapeAt 1 (3 * k + (3 * k * j + m)) g1 := by
      have := hI.at T
      rw [show 3 * k * (j + 1) + m = 3 * k + (3 * k * j + m) by rw [Nat.mul_add]; omega] at this
      exact this
    have h' := h.wipe (i := 13) (j := 0) (s := .d d) (by decide) (by simp)
    obtain ⟨is, g2, e2, k2, l2, b2⟩ := (c1_ok A (l := []) (h'.sub (l' := [(4, .d (.int pl)), (1, .c 1)]) (by simp)) (by simp) hp hk (T1.app (r := [.lst acc]))).1
    obtain ⟨g3, rfl, k3⟩ := k2.app T1.lt
    refine ⟨_, intsT is, g3, rfl, rfl, ?_, by rw [k3.len, hg], hI.trans k3, is, rfl, l2, b2⟩
    unfold d_law_c3e
    simp only [cbD, consL, nilL, e2, R.bind_ok, tup_of]) (by omega)
  obtain ⟨R, rfl, h1, h2⟩ := rows_of k xs q4
  exact ⟨R, g', e1, by simpa using q2, by rw [h1, q3, hd], h2⟩
end
end Lk24
namespace Lk24
open PySem PySem.Spec L2 DL
/-- what the things' cell holds -/
def Th (q m : Nat) (g : G) : Prop := ∃ a b c : D, g[q]? = some (.lst [a, b, c]) ∧ Sz (m + 1) a ∧ Sz 1000 b ∧ Sz 1000 c
theorem Th.tk {q m n : Nat} {g g' : G} (h : Th q m g) (k : Tk 1 n g g') (hq : q ≠ 1) : Th q m g' := by
  obtain ⟨a, b, c, e, h1, h2, h3⟩ := h
  exact ⟨a, b, c, by rw [k.get hq]; exact e, h1, h2, h3⟩
theorem set_tape {n q : Nat} {g : G} {c : Cell} (h : TapeAt 1 n g) (hq : q ≠ 1) : TapeAt 1 n (g.set q c) := by
  obtain ⟨t, e, ht⟩ := h
  exact ⟨t, by rw [List.getElem?_set_ne hq]; exact e, ht⟩
theorem put_at {q : Nat} {g : G} {a b c x : D} {i : Int} (h : g[q]? = some (.lst [a, b, c])) (h0 : 0 ≤ i) (h1 : i < 3) : putS (.d x) (.c q) (.d (.int i)) g = some (g.set q (.lst ([a, b, c].set i.toNat x))) := by
  unfold putS
  dsimp only
  rw [h]
  dsimp only
  have : ixN [a, b, c].length i = some i.toNat := by
    unfold ixN
    rw [if_pos h0, if_pos (by simpa using h1)]
  rw [this]
theorem ix_at {q : Nat} {g : G} {xs : List D} {x : D} {i : Int} (h : g[q]? = some (.lst xs)) (hx : atI xs i = some x) : ixS (.c q) (.d (.int i)) g = .ok (.d x) g := by
  unfold ixS
  dsimp only
  rw [h]
  dsimp only
  rw [hx]
theorem Th.put {q m : Nat} {g : G} {a b c x : D} (h : g[q]? = some (.lst [a, b, c])) (ha : Sz (m + 1) a) (hb : Sz 1000 b) (hc : Sz 1000 c) {i : Int} (h0 : 0 ≤ i) (h1 : i < 3) (hx : i = 0 → Sz (m + 1) x) (hx2 : Sz 1000 x) : Th q m (g.set q (.lst ([a, b, c].set i.toNat x))) := by
  have hl := (List.getElem?_eq_some_iff.mp h).1
  have hi : i = 0 ∨ i = 1 ∨ i = 2 := by omega
  rcases hi with rfl | rfl | rfl
  · exact ⟨x, b, c, List.getElem?_set_self hl, hx rfl, hb, hc⟩
  · exact ⟨a, x, c, List.getElem?_set_self hl, ha, hx2, hc⟩
  · exact ⟨a, b, x, List.getElem?_set_self hl, ha, hb, hx2⟩
section
variable (A : Ad)
/-- things[i] = a thing, or not -/
theorem put_step {fv : DE S} {t : DE Bool} {ρ : DL.Env} {g : G} {q m n w : Nat} {i : Int} {l : List (Nat × S)} (he : Ev ρ l) (hq : (10, S.c q) ∈ l) (q1 : q ≠ 1) (hs : TapeAt 1 (n + w) g) (h2 : 2 ≤ g.length) (ht : Th q m g) (hi0 : 0 ≤ i) (hi1 : i < 3)
    (htest : ∃ b, t ρ g = .ok b g) (hv : ∃ x g', fv ρ g = .ok (.d x) g' ∧ Tk 1 n g g' ∧ (i = 0 → Sz (m + 1) x) ∧ Sz 1000 x) :
    Nx (ifS t (putSt (varD 10) (cD (.int i)) fv) nextS ρ g) fun ρ' g' => ρ = ρ' ∧ TapeAt 1 n g' ∧ 2 ≤ g'.length ∧ Th q m g' := by
  obtain ⟨b, hb⟩ := htest
  refine nx_if hb (fun _ => ?_) fun _ => nx_next ⟨rfl, hs.mono (by omega), h2, ht⟩
  obtain ⟨x, g', e, k1, hx, hx2⟩ := hv
  obtain ⟨a, b, c, eq, h1, h2', h3⟩ := ht.tk k1 q1
  refine nx_put e (g2 := g') (o := .c q) (by simp [he.get 10 (.c q) hq]) (g3 := g') (i := .d (.int i)) rfl (put_at eq hi0 hi1) ⟨rfl, set_tape (k1.at hs) q1, by rw [List.length_set, k1.len]; exact h2, Th.put eq h1 h2' h3 hi0 hi1 hx hx2⟩
theorem body_ok {ρ : DL.Env} {g : G} {n : Nat} (he : Ev ρ [(1, .c 1)]) (hs : TapeAt 1 (n + 20000) g) (h2 : 2 ≤ g.length) : Nx (d_law_b11 A ρ g) fun ρ' g' => Ev ρ' [(1, .c 1)] ∧ TapeAt 1 n g' ∧ 2 ≤ g'.length := by
  unfold d_law_b11
  -- places, many
  refine nx_seq (P := fun ρ1 g1 => ∃ pl, Ev ρ1 [(4, .d (.int pl)), (1, .c 1)] ∧ 1 ≤ pl ∧ pl ≤ 6 ∧ TapeAt 1 (n + 19999) g1 ∧ 2 ≤ g1.length) ?_ ?_
  · obtain ⟨v, g1, e, k1, a1, b1⟩ := draw_ok (n := n + 19999) hs (m := 6) (by decide) (by decide)
    exact nx_asg (s := .d (.int (1 + v))) (g1 := g1) (by simp [he.get 1 (.c 1) (by simp), draw_eq, e]) ⟨_, he.set (by decide) (by simp), by omega, by omega, k1.at hs, by rw [k1.len]; exact h2⟩
  clear hs h2 he g ρ
  rintro ρ g ⟨pl, he, p1, p2, hs, h2⟩
  refine nx_seq (P := fun ρ1 g1 => ∃ many, Ev ρ1 [(5, .d (.int many)), (4, .d (.int pl)), (1, .c 1)] ∧ 0 ≤ many ∧ many ≤ 5 ∧ TapeAt 1 (n + 19998) g1 ∧ 2 ≤ g1.length) ?_ ?_
  · obtain ⟨v, g1, e, k1, a1, b1⟩ := draw_ok (n := n + 19998) hs (m := 6) (by decide) (by decide)
    exact nx_asg (s := .d (.int v)) (g1 := g1) (by simp [he.get 1 (.c 1) (by simp), draw_eq, e]) ⟨_, he.set (by decide) (by simp), by omega, by omega, k1.at hs, by rw [k1.len]; exact h2⟩
  clear hs h2 he g ρ
  rintro ρ g ⟨many, he, m1, m2, hs, h2⟩
  refine nx_seq (P := fun ρ1 g1 => ∃ k w : Nat, Ev ρ1 [(5, .d (.int w)), (4, .d (.int k)), (1, .c 1)] ∧ 1 ≤ k ∧ k ≤ 100 ∧ w ≤ 40 ∧ TapeAt 1 (n + 19996) g1 ∧ 2 ≤ g1.length) ?_ ?_
  · obtain ⟨v, g1, e, k1, a1, b1⟩ := draw_ok (n := n + 19997) hs (m := 24) (by decide) (by decide)
    refine nx_if (b := decide (v = 0)) (g1 := g1) (by simp [he.get 1 (.c 1) (by simp), draw_eq, e]) (fun _ => ?_) fun _ => ?_
    · obtain ⟨v2, g2, e2, k2, a2, b2⟩ := draw_ok (n := n + 19996) (k1.at hs) (m := 2) (by decide) (by decide)
      refine nx_seq (P := fun ρ1 g' => Ev ρ1 [(4, .d (.int 100)), (1, .c 1)] ∧ g1 = g') (nx_asg (s := .d (.int 100)) (g1 := g1) rfl ⟨(he.sub (l' := [(1, .c 1)]) (by simp)).set (by decide) (by simp), rfl⟩) ?_
      rintro ρ2 _ ⟨he2, rfl⟩
      refine nx_asg (s := .d (.int (39 + v2))) (g1 := g2) (by simp [he2.get 1 (.c 1) (by simp), draw_eq, e2]) ⟨100, (39 + v2).toNat, ?_, by decide, by decide, by omega, k2.at (k1.at hs), by rw [k2.len, k1.len]; exact h2⟩
      have := he2.set (i := 5) (s := .d (.int (39 + v2))) (by decide) (by simp)
      rw [show ((39 + v2).toNat : Int) = 39 + v2 by omega]
      exact this
    · exact nx_next ⟨pl.toNat, many.toNat, by
        rw [show (pl.toNat : Int) = pl by omega, show (many.toNat : Int) = many by omega]; exact he, by omega, by omega, by omega, (k1.at hs).mono (by omega), by rw [k1.len]; exact h2⟩
  clear hs h2 he g ρ p1 p2 m1 m2 pl many
  rintro ρ g ⟨k, w, he, p1, p2, p3, hs, h2⟩
  have hkw : 3 * k * w ≤ 12000 := by
    have := Nat.mul_le_mul (Nat.mul_le_mul (Nat.le_refl 3) p2) p3
    omega
  -- rows
  refine nx_seq (P := fun ρ1 g1 => ∃ R : List (List Int), Ev ρ1 [(6, .d (rowsT R)), (5, .d (.int w)), (4, .d (.int k)), (1, .c 1)] ∧ R.length = w ∧ (∀ x ∈ R, x.length = k ∧ ∀ i ∈ x, Bd i) ∧ TapeAt 1 (n + 7996) g1 ∧ 2 ≤ g1.length) ?_ ?_
  · obtain ⟨R, g1, e, k1, l1, b1⟩ := c3_ok A (k := k) (w := w) (m := n + 7996) (he.sub (l' := [(4, .d (.int k)), (1, .c 1), (5, .d (.int w))]) (by simp)) rfl p2 rfl (by omega) (hs.mono (by omega))
    exact nx_asg (s := .d (rowsT R)) (g1 := g1) (by simp only [cbD, consL, nilL, e, DL.R.bind_ok, tup_of]) ⟨R, he.set (by decide) (by simp), l1, b1, k1.at hs, by rw [k1.len]; exact h2⟩
  clear hs h2 he g ρ
  rintro ρ g ⟨R, he, lR, bR, hs, h2⟩
  -- amounts
  refine nx_seq (P := fun ρ1 g1 => ∃ Am : List Int, Ev ρ1 [(7, .d (intsT Am)), (6, .d (rowsT R)), (5, .d (.int w)), (4, .d (.int k)), (1, .c 1)] ∧ Am.length = w ∧ (∀ i ∈ Am, Bd i) ∧ TapeAt 1 (n + 7800) g1 ∧ 2 ≤ g1.length) ?_ ?_
  · obtain ⟨is, g1, e, k1, l1, b1⟩ := numbers_ok A (it := seqI (varD 6)) (vs := [3]) (j := 3) (el := d_law_c5e A) (ρ := ρ) (g := g) (ds := R.map intsT) (p := 1) (m := n + 7800) (by simp [he.get 6 (.d (rowsT R)) (by simp)]) (hs.mono (by rw [List.length_map]; omega)) (fun d g => by
      have := (he.wipe (i := 3) (j := 0) (s := .d d) (by decide) (by simp)).get 1 (.c 1) (by simp)
      unfold d_law_c5e
      simp only [callD, consL, nilL, varD, this, DL.R.bind_ok]) (by rw [List.length_map]; omega)
    exact nx_asg (s := .d (intsT is)) (g1 := g1) (by unfold d_law_c5; simp only [cbD, consL, nilL, e, DL.R.bind_ok, tup_of]) ⟨is, he.set (by decide) (by simp), by rw [l1, List.length_map, lR], b1, k1.at hs, by rw [k1.len]; exact h2⟩
  clear hs h2 he g ρ
  rintro ρ g ⟨Am, he, lA, bA, hs, h2⟩
  -- worths
  refine nx_seq (P := fun ρ1 g1 => ∃ Wo : List Int, Ev ρ1 [(8, .d (intsT Wo)), (7, .d (intsT Am)), (6, .d (rowsT R)), (5, .d (.int w)), (4, .d (.int k)), (1, .c 1)] ∧ Wo.length = k ∧ (∀ i ∈ Wo, Bd i) ∧ TapeAt 1 (n + 7400) g1 ∧ 2 ≤ g1.length) ?_ ?_
  · obtain ⟨is, g1, e, k1, l1, b1⟩ := (c1_ok A (l := []) (he.sub (l' := [(4, .d (.int k)), (1, .c 1)]) (by simp)) (by simp) (k := k) (m := n + 7400) rfl p2 (hs.mono (by omega))).2
    exact nx_asg (s := .d (intsT is)) (g1 := g1) (by simp only [cbD, consL, nilL, e, DL.R.bind_ok, tup_of]) ⟨is, he.set (by decide) (by simp), l1, b1, k1.at hs, by rw [k1.len]; exact h2⟩
  clear hs h2 he g ρ
  rintro ρ g ⟨Wo, he, lW, bW, hs, h2⟩
  have v : Val R Am Wo := ⟨by omega, by omega, by omega, by omega, fun x hx => ⟨by rw [(bR x hx).1, lW], (bR x hx).2⟩, bA, bW⟩
  have g5 := he.get 5 (.d (.int w)) (by simp)
  have g6 := he.get 6 (.d (rowsT R)) (by simp)
  have g7 := he.get 7 (.d (intsT Am)) (by simp)
  have g8 := he.get 8 (.d (intsT Wo)) (by simp)
  -- is_right
  refine nx_seq (P := fun ρ1 g1 => ρ = ρ1 ∧ g = g1) ?_ ?_
  · refine nx_if (b := false) (g1 := g) ?_ (fun z => by cases z) fun _ => nx_next ⟨rfl, rfl⟩
    by_cases q : (w : Int) < 40
    · have := is_right_eq A v.good (fun _ => by simp [lenT]; omega) g
      simp only [andB, asB, notB, bin2, callD, consL, nilL, varD, cD, g5, g6, g7, g8, DL.R.bind_ok, opD, snap_d, ltD_i, decide_eq_true q, if_true, this, Bool.not_true]
    · simp only [andB, asB, notB, bin2, callD, consL, nilL, varD, cD, g5, g6, g7, g8, DL.R.bind_ok, opD, snap_d, ltD_i, decide_eq_false q, Bool.false_eq_true, if_false]
  rintro _ _ ⟨rfl, rfl⟩
  clear g5 g6 g7 g8
  -- ways
  refine nx_seq (P := fun ρ1 g1 => ∃ a b c : Int, Ev ρ1 [(9, .d (.lst [.int a, .int b, .int c])), (8, .d (intsT Wo)), (7, .d (intsT Am)), (6, .d (rowsT R)), (5, .d (.int w)), (1, .c 1)] ∧ TapeAt 1 (n + 7300) g1 ∧ 2 ≤ g1.length) ?_ ?_
  · obtain ⟨ds, er, hd⟩ := DL.range_ok (j := 3) (k := 3) rfl (by decide) (f := cD (.int 3)) (ρ := ρ) (g := g) rfl
    obtain ⟨xs, g', e1, q1, q2, q3, q4⟩ := compD_st (it := range1 (consL (cD (.int 3)) nilL)) (vs := [12]) (h := nameG 12) (t := yesB) (el := d_law_c9e A) (ρ := ρ) (I := fun j g' => Tk 1 (j + (n + 7300)) g g') (P := fun x => ∃ i, x = .int i) er (Tk.refl (by rw [hd]; exact hs.mono (by omega))) (fun d hd' j acc g1 hg hI => by
      have T1 : TapeAt 1 ((j + (n + 7300)) + 1) g1 := by
        have := hI.at hs
        rw [show j + 1 + (n + 7300) = j + (n + 7300) + 1 by omega] at this
        exact this
      obtain ⟨v, g2, e2, k2, _, _⟩ := draw_ok (T1.app (r := [Cell.lst acc])) (m := 3) (by decide) (by decide)
      obtain ⟨g3, rfl, k3⟩ := k2.app T1.lt
      refine ⟨_, .int v, g3, rfl, rfl, ?_, by rw [k3.len, hg], hI.trans k3, v, rfl⟩
      have := (he.wipe (i := 12) (j := 0) (s := .d d) (by decide) (by simp)).get 1 (.c 1) (by simp)
      unfold d_law_c9e
      simp only [callD, consL, nilL, varD, cD, this, DL.R.bind_ok, draw_eq, e2]) (by rw [hd]; decide)
    rw [hd] at q3
    match xs, q3, q4 with
    | [x, y, z], _, q4 =>
      obtain ⟨a, rfl⟩ := q4 x (by simp)
      obtain ⟨b, rfl⟩ := q4 y (by simp)
      obtain ⟨c, rfl⟩ := q4 z (by simp)
      refine nx_asg (s := .d (.lst [.int a, .int b, .int c])) (g1 := g') e1 ⟨a, b, c, (he.sub (l' := [(8, .d (intsT Wo)), (7, .d (intsT Am)), (6, .d (rowsT R)), (5, .d (.int w)), (1, .c 1)]) (by simp)).set (by decide) (by simp), ?_, by rw [q1]; exact h2⟩
      have := q2.at hs
      rw [Nat.zero_add] at this
      exact this
  clear hs h2 he g ρ
  rintro ρ g ⟨w0, w1, w2, he, hs, h2⟩
  -- things
  refine nx_seq (P := fun ρ1 g1 => ∃ q, q ≠ 1 ∧ Ev ρ1 [(10, .c q), (9, .d (.lst [.int w0, .int w1, .int w2])), (8, .d (intsT Wo)), (7, .d (intsT Am)), (6, .d (rowsT R)), (5, .d (.int w)), (1, .c 1)] ∧ TapeAt 1 (n + 7300) g1 ∧ 2 ≤ g1.length ∧ Th q w g1) ?_ ?_
  · refine nx_asg (s := .c g.length) (g1 := g ++ [.lst [rowsT R, intsT Am, intsT Wo]]) ?_ ⟨g.length, by omega, he.set (by decide) (by simp), hs.app, by rw [List.length_append]; omega, rowsT R, intsT Am, intsT Wo, app_get _ _, ?_, ?_, ?_⟩
    · simp [he.get 6 (.d (rowsT R)) (by simp), he.get 7 (.d (intsT Am)) (by simp), he.get 8 (.d (intsT Wo)) (by simp)]
    · exact (sz_rows (fun x hx => by rw [(bR x hx).1]; exact p2)).mono (by omega)
    · exact (sz_ints Am).mono (by omega)
    · exact (sz_ints Wo).mono (by omega)
  clear hs h2 he g ρ
  rintro ρ g ⟨q, q1, he, hs, h2, ht⟩
  have g9 := he.get 9 (.d (.lst [.int w0, .int w1, .int w2])) (by simp)
  have g1 := he.get 1 (.c 1) (by simp)
  have g6 := he.get 6 (.d (rowsT R)) (by simp)
  have g7 := he.get 7 (.d (intsT Am)) (by simp)
  have g8 := he.get 8 (.d (intsT Wo)) (by simp)
  refine nx_seq (put_step (n := n + 7200) (w := 100) (m := w) he (by simp) q1 (hs.mono (by omega)) h2 ht (by decide) (by decide) ⟨decide (w0 = 0), ?_⟩ ?_) ?_
  · have e : ∀ g : G, ixS (.d (.lst [.int w0, .int w1, .int w2])) (.d (.int 0)) g = .ok (.d (.int w0)) g := fun g => rfl
    simp [g9, e]
  · obtain ⟨x, g', e, k1, s1⟩ := bent_rows_ok A (n := n + 7200) (hs.mono (by omega)) (R := R) (by omega) (fun x hx => by rw [(bR x hx).1]; exact p2)
    rw [lR] at s1
    exact ⟨x, g', by simp [g1, g6, e], k1, fun _ => s1, s1.mono (by omega)⟩
  clear hs h2 ht g
  rintro _ g ⟨rfl, hs, h2, ht⟩
  refine nx_seq (put_step (n := n + 7100) (w := 100) (m := w) he (by simp) q1 (hs.mono (by omega)) h2 ht (by decide) (by decide) ⟨decide (w1 = 0), ?_⟩ ?_) ?_
  · have e : ∀ g : G, ixS (.d (.lst [.int w0, .int w1, .int w2])) (.d (.int 1)) g = .ok (.d (.int w1)) g := fun g => rfl
    simp [g9, e]
  · obtain ⟨x, g', e, k1, s1⟩ := bent_ok A (n := n + 7100) (hs.mono (by omega)) (sz_ints Am) (by omega)
    exact ⟨x, g', by simp [g1, g7, e], k1, fun z => absurd z (by decide), s1.mono (by simp; omega)⟩
  clear hs h2 ht g
  rintro _ g ⟨rfl, hs, h2, ht⟩
  refine nx_seq (put_step (n := n + 7000) (w := 100) (m := w) he (by simp) q1 (hs.mono (by omega)) h2 ht (by decide) (by decide) ⟨decide (w2 = 0), ?_⟩ ?_) ?_
  · have e : ∀ g : G, ixS (.d (.lst [.int w0, .int w1, .int w2])) (.d (.int 2)) g = .ok (.d (.int w2)) g := fun g => rfl
    simp [g9, e]
  · obtain ⟨x, g', e, k1, s1⟩ := bent_ok A (n := n + 7000) (hs.mono (by omega)) (sz_ints Wo) (by omega)
    exact ⟨x, g', by simp [g1, g8, e], k1, fun z => absurd z (by decide), s1.mono (by simp; omega)⟩
  clear hs h2 ht g
  rintro _ g ⟨rfl, hs, h2, ht⟩
  -- the odd one
  refine nx_seq (P := fun ρ1 g' => ρ = ρ1 ∧ TapeAt 1 n g' ∧ 2 ≤ g'.length ∧ Th q w g') ?_ ?_
  · obtain ⟨v1, ga, e1, k1, a1, b1⟩ := draw_ok (n := n + 6999) hs (m := 4) (by decide) (by decide)
    refine nx_if (b := decide (v1 = 0)) (g1 := ga) (by simp [g1, draw_eq, e1]) (fun _ => ?_) fun _ => nx_next ⟨rfl, (k1.at hs).mono (by omega), by rw [k1.len]; exact h2, ht.tk k1 q1⟩
    obtain ⟨x, gb, e2, k2, s2⟩ := odd_ok A (n := n + 6998) (k1.at hs)
    obtain ⟨v3, gc, e3, k3, a3, b3⟩ := draw_ok (n := n) ((k2.at (k1.at hs)).mono (by omega)) (m := 3) (by decide) (by decide)
    obtain ⟨a, b, c, eq, h1, h2', h3⟩ := ((ht.tk k1 q1).tk k2 q1).tk k3 q1
    exact nx_put (v := .d x) (g1 := gb) (by simp [g1, e2]) (o := .c q) (g2 := gb) (by simp [he.get 10 (.c q) (by simp)]) (i := .d (.int v3)) (g3 := gc) (by simp [g1, draw_eq, e3]) (put_at eq a3 b3) ⟨rfl, set_tape (k3.at (k2.at (k1.at hs))) q1, by rw [List.length_set, k3.len, k2.len, k1.len]; exact h2, Th.put eq h1 h2' h3 a3 b3 (fun _ => s2.mono (by omega)) (s2.mono (by decide))⟩
  clear hs h2 ht g
  rintro _ g ⟨rfl, hs, h2, a, b, c, eq, sa, sb, sc⟩
  have hG : Good a b c := good_sz sa sb sc (by omega) (by decide) (by decide)
  have i0 : ixS (.c q) (.d (.int 0)) g = .ok (.d a) g := ix_at eq rfl
  have i1 : ixS (.c q) (.d (.int 1)) g = .ok (.d b) g := ix_at eq rfl
  have i2 : ixS (.c q) (.d (.int 2)) g = .ok (.d c) g := ix_at eq rfl
  have g10 := he.get 10 (.c q) (by simp)
  refine nx_seq (P := fun ρ1 g' => Ev ρ1 [(11, .d (.str (due a b c))), (10, .c q), (5, .d (.int w)), (1, .c 1)] ∧ g = g') ?_ ?_
  · exact nx_asg (s := .d (.str (due a b c))) (g1 := g) (by simp [g10, i0, i1, i2, due_eq A hG]) ⟨(he.sub (l' := [(10, .c q), (5, .d (.int w)), (1, .c 1)]) (by simp)).set (by decide) (by simp), rfl⟩
  clear g10 g9 g8 g7 g6 g1 he ρ
  rintro ρ _ ⟨he, rfl⟩
  have g11 := he.get 11 (.d (.str (due a b c))) (by simp)
  have g10 := he.get 10 (.c q) (by simp)
  have g5 := he.get 5 (.d (.int w)) (by simp)
  have ixt : ixS (.d (toldV A a b c)) (.d (.int 0)) g = .ok (.d (.str (due a b c))) g := rfl
  refine nx_seq (P := fun ρ1 g' => ρ = ρ1 ∧ g = g') ?_ ?_
  · refine nx_if (b := false) (g1 := g) ?_ (fun z => by cases z) fun _ => nx_next ⟨rfl, rfl⟩
    by_cases hd : due a b c = "let"
    · simp [g11, hd, o1]
    · simp [g11, g10, hd, o1, due_ok, i0, i1, i2, told_eq A hG, ixt]
  rintro _ _ ⟨rfl, rfl⟩
  refine nx_if (b := false) (g1 := g) ?_ (fun z => by cases z) fun _ => nx_next ⟨he.sub (by simp), hs, h2⟩
  by_cases hd : due a b c = "let"
  · by_cases hw : w < 39
    · have := is_right_eq A hG (fun _ => by have := sa.l; omega) g
      have hw' : (w : Int) < 39 := by omega
      simp [g11, g10, g5, hd, o1, hw', i0, i1, i2, this]
    · have hw' : ¬ (w : Int) < 39 := by omega
      simp [g11, g10, g5, hd, o1, hw']
  · simp [g11, hd, o1, due_ok]
end
end Lk24
namespace Lk24
open PySem PySem.Spec L2 DL
section
variable (A : Ad)
theorem rep_ints (x : Int) : ∀ n, (List.replicate n [D.int x]).flatten = (List.replicate n x).map D.int
  | 0 => rfl
  | n + 1 => by
    rw [List.replicate_succ, List.flatten_cons, rep_ints x n, List.replicate_succ]; rfl
theorem rep_rows (r : List Int) : ∀ n, (List.replicate n [intsT r]).flatten = (List.replicate n r).map intsT
  | 0 => rfl
  | n + 1 => by
    rw [List.replicate_succ, List.flatten_cons, rep_rows r n, List.replicate_succ]; rfl
abbrev z100 : List Int := List.replicate 100 0
theorem mul_ok (d : D) (k : Nat) (h2 : 2 ≤ k) (h : k ≤ 1000) (g : G) : mulS (.d (.tup [d])) (.d (.int (k : Int))) g = .ok (.d (.tup (List.replicate k [d]).flatten)) g := by
  unfold mulS
  dsimp only
  rw [if_pos ⟨by simp, by omega, by omega, by simp⟩, Int.toNat_natCast]
theorem bd0 : Bd 0 := ⟨by decide, by decide⟩
theorem law_true : ∀ ns : List Int, ns.length ≤ 63 → (∀ z ∈ ns, PySem.Builtin.Int.intBits z ≤ 1048576) → ∃ g, phi_law A [.d (.scr ns)] [] = .ok (.d (.bl true)) g := by
  intro ns hl _
  obtain ⟨c, ep, hc⟩ := pool_ok ns hl
  obtain ⟨ds, er, hd⟩ := DL.range_ok (j := 3) (k := 3) rfl (by decide) (f := cD (.int 3)) (ρ := [some (.d (.scr ns)), some (.c 1), none, none, none, none, none, none, none, none, none, none, none, none]) (g := [.dead, c]) rfl
  have hloop := loopS_inv (nameG 2) (d_law_b11 A) (fun k ρ g => Ev ρ [(1, .c 1)] ∧ TapeAt 1 (20000 * k) g ∧ 2 ≤ g.length) (fun _ _ => False) ds [some (.d (.scr ns)), some (.c 1), none, none, none, none, none, none, none, none, none, none, none, none] [.dead, c]
    ⟨⟨rfl, by simp⟩, ⟨c, rfl, hc.mono (by rw [hd]; decide)⟩, Nat.le_refl _⟩ (fun d hd' k ρ g ⟨h1, h2, h3⟩ => by
      obtain ⟨ρ2, g2, e, i1, i2, i3⟩ := body_ok A (n := 20000 * k) (h1.set (i := 2) (s := .d d) (by decide) (by simp) |>.sub (l' := [(1, .c 1)]) (by simp)) (by rw [show 20000 * k + 20000 = 20000 * (k + 1) by omega]; exact h2) h3
      exact ⟨_, rfl, .inl ⟨ρ2, g2, e, i1, i2, i3⟩⟩)
  rcases hloop with ⟨ρ2, g2, e2, he, hT, hg⟩ | ⟨_, _, _, z⟩
  · have e3 : forS (range1 (consL (cD (.int 3)) nilL)) (nameG 2) (d_law_b11 A) [some (.d (.scr ns)), some (.c 1), none, none, none, none, none, none, none, none, none, none, none, none] [.dead, c] = .nx ρ2 g2 := by
      unfold forS
      rw [er]
      exact e2
    have he3 := he.set (i := 3) (s := .d (intsT z100)) (by decide) (by simp)
    have g3 := he3.get 3 (.d (intsT z100)) (by simp)
    have m1 : ∀ g : G, mulS (.d (.tup [.int 0])) (.d (.int 100)) g = .ok (.d (intsT z100)) g := fun g => by
      have := mul_ok (.int 0) 100 (by decide) (by decide) g
      rw [rep_ints] at this
      exact this
    have m2 : ∀ g : G, mulS (.d (.tup [intsT z100])) (.d (.int 41)) g = .ok (.d (rowsT (List.replicate 41 z100))) g := fun g => by
      have := mul_ok (intsT z100) 41 (by decide) (by decide) g
      rw [rep_rows] at this
      exact this
    have m3 : ∀ g : G, mulS (.d (.tup [intsT z100])) (.d (.int 40)) g = .ok (.d (rowsT (List.replicate 40 z100))) g := fun g => by
      have := mul_ok (intsT z100) 40 (by decide) (by decide) g
      rw [rep_rows] at this
      exact this
    have m4 : ∀ g : G, mulS (.d (.tup [.int 0])) (.d (.int 41)) g = .ok (.d (intsT (List.replicate 41 0))) g := fun g => by
      have := mul_ok (.int 0) 41 (by decide) (by decide) g
      rw [rep_ints] at this
      exact this
    have m5 : ∀ g : G, mulS (.d (.tup [.int 0])) (.d (.int 40)) g = .ok (.d (intsT (List.replicate 40 0))) g := fun g => by
      have := mul_ok (.int 0) 40 (by decide) (by decide) g
      rw [rep_ints] at this
      exact this
    have ad : ∀ g : G, addS (.d (intsT z100)) (.d (.tup [.int 0])) g = .ok (.d (intsT (z100 ++ [0]))) g := fun g => by
      have := add_tup (z100.map D.int) [.int 0] g (by simp)
      rw [this]
      show _ = DL.R.ok (S.d (D.tup ((z100 ++ [0]).map D.int))) g
      rw [List.map_append]; rfl
    have rl : ∀ (n : Nat) (x : List Int), x ∈ List.replicate n z100 → x.length ≤ 100 := fun n x hx => by
      rw [List.eq_of_mem_replicate hx]; simp
    have G1 : Good (.tup []) (.tup []) (intsT (z100 ++ [0])) := good_sz sz_nil sz_nil (sz_ints _) (by decide) (by decide) (by simp)
    have G2 : Good (rowsT (List.replicate 41 z100)) (intsT (List.replicate 41 0)) (intsT z100) := good_sz (sz_rows (rl 41)) (sz_ints _) (sz_ints _) (by simp) (by simp) (by simp)
    have V : Val (List.replicate 40 z100) (List.replicate 40 0) z100 := ⟨by simp, by simp, by simp, by simp, fun x hx => by
      rw [List.eq_of_mem_replicate hx]
      exact ⟨rfl, fun i hi => by rw [List.eq_of_mem_replicate hi]; exact bd0⟩, fun i hi => by rw [List.eq_of_mem_replicate hi]; exact bd0, fun i hi => by rw [List.eq_of_mem_replicate hi]; exact bd0⟩
    have d1 : due (.tup []) (.tup []) (intsT (z100 ++ [0])) = "worths" := by
      have : okW (intsT (z100 ++ [0])) = false := by
        cases q : okW (intsT (z100 ++ [0])) with
        | false => rfl
        | true => exact absurd (okW_tup.mp q).2.1 (by simp)
      unfold due
      rw [this]; rfl
    have w100 : okW (intsT z100) = true := okW_tup.mpr ⟨by simp, by simp, areN_ints.mpr ⟨z100, rfl, by simp, V.wb⟩⟩
    have d2 : due (rowsT (List.replicate 41 z100)) (intsT (List.replicate 41 0)) (intsT z100) = "rows" := by
      have : okR (rowsT (List.replicate 41 z100)) (lenT (intsT z100)) = false := by
        cases q : okR (rowsT (List.replicate 41 z100)) (lenT (intsT z100)) with
        | false => rfl
        | true => exact absurd (okR_tup.mp q).1 (by simp)
      unfold due
      rw [w100, this]; rfl
    have d3 : due (rowsT (List.replicate 40 z100)) (intsT (List.replicate 40 0)) (intsT z100) = "let" := due_let.mpr ⟨_, _, _, rfl, rfl, rfl, V⟩
    have t1 := told_eq A G1
    have t2 := told_eq A G2
    have t3 := told_eq A V.good
    have x1 : ∀ r a w g, ixS (.d (toldV A r a w)) (.d (.int 0)) g = .ok (.d (.str (due r a w))) g := fun r a w g => rfl
    refine ⟨g2.take 0, ?_⟩
    clear he3 V G1 G2 w100
    generalize rowsT (List.replicate 41 z100) = R41 at *
    generalize rowsT (List.replicate 40 z100) = R40 at *
    generalize intsT (List.replicate 41 0) = A41 at *
    generalize intsT (List.replicate 40 0) = A40 at *
    generalize intsT (z100 ++ [0]) = W1 at *
    generalize intsT z100 = Z at *
    unfold phi_law d_law defD
    simp [pool_eq, ep, e3, m1, g3, ad, m2, m3, m4, m5, t1, t2, t3, x1, d1, d2, d3, o1, o2, o3, finD]
  · exact z.elim
end
end Lk24
open PySem PySem.W PyProof.Rows in
set_option maxRecDepth 100000 in
set_option maxHeartbeats 0 in
theorem PySem.Challenge.cw_turnsneeded_k24_tasks_judged_holds : PySem.Challenge.rw_turnsneeded_k24_tasks_judged.Holds := by
  w_on; o_law; k_head; (case hw => w_witness2)
  k_fill
  refine L2.walk_ofB (l := PySem.Challenge.rw_turnsneeded_k24_tasks_judged) (n := 63) (k := 9) (x := "_law_script") (CX := fun w => L2.CX PySem.Challenge.pw_turnsneeded_k24_tasks_judged w) (sp := fun w => DL.spLaw _) rfl (by decide) rfl ⟨rfl, by decide, by decide⟩ (fun w h Y => PySem.W.kIn_of Y) ?F (fun w H a ns hl hb _ hS => DL.law_end (P := PySem.Challenge.pw_turnsneeded_k24_tasks_judged) (w := w) H a ns hl hb hS) (fun w H s e s' h => DL.cx_end H s e s' h)
  case F =>
    intro w mg fa h KX G hmg
    have q := @Lk24.all_mk PySem.Challenge.pw_turnsneeded_k24_tasks_judged w _ h mg fa KX G hmg
    obtain ⟨fd, hb, hF⟩ : ∃ fd : FuncData, (∀ (s : Shared) (v : Value), BindsTo s fd ⟨[v], []⟩ [("_law_script", v)]) ∧ ∀ base : Heap, _ → base.Ns mainGlobals mg → DL.FnD PySem.Challenge.pw_turnsneeded_k24_tasks_judged w _ mg base 9 fa fd ["_law_script"] (Lk24.phi_law _) := by
      refine' Lk24.all_mk (P := PySem.Challenge.pw_turnsneeded_k24_tasks_judged) (w := w) KX G hmg ?ha_Task ?ha_TurnError ?ha_BadTask ?ha__law_pool ?hl__law_pool ?hc__law_pool ?hk__law_pool ?ha__law_draw ?hl__law_draw ?hc__law_draw ?hk__law_draw ?ha__law_number ?hl__law_number ?hc__law_number ?hk__law_number ?ha_is_integer ?hl_is_integer ?hc_is_integer ?hk_is_integer ?ha_are_integers ?hl_are_integers ?hc_are_integers ?hk_are_integers ?ha_are_within ?hl_are_within ?hc_are_within ?hk_are_within ?ha_are_numbers ?hl_are_numbers ?hc_are_numbers ?hk_are_numbers ?ha_Task___init__ ?hl_Task___init__ ?hc_Task___init__ ?hk_Task___init__ ?hf_Task___init__ ?ha__law_told ?hl__law_told ?hc__law_told ?hk__law_told ?ha__law_is_int ?hl__law_is_int ?hc__law_is_int ?hk__law_is_int ?ha__law_are_ints ?hl__law_are_ints ?hc__law_are_ints ?hk__law_are_ints ?ha__law_are_numbers ?hl__law_are_numbers ?hc__law_are_numbers ?hk__law_are_numbers ?ha__law_due ?hl__law_due ?hc__law_due ?hk__law_due ?ha_Task___eq__ ?hl_Task___eq__ ?hc_Task___eq__ ?hk_Task___eq__ ?hf_Task___eq__ ?ha__law_is_right ?hl__law_is_right ?hc__law_is_right ?hk__law_is_right ?ha__law_deep ?hl__law_deep ?hc__law_deep ?hk__law_deep ?ha__law_bent ?hl__law_bent ?hc__law_bent ?hk__law_bent ?ha__law_bent_rows ?hl__law_bent_rows ?hc__law_bent_rows ?hk__law_bent_rows ?ha__law_odd ?hl__law_odd ?hc__law_odd ?hk__law_odd ?ha_law ?hl_law ?hc_law ?hk_law ?hp1_Task ?hp2_Task ?hp3_Task ?hp4_Task ?hp5_Task ?hp7_Task ?hp8_Task ?hm_Task ?hq_Task ?hn_Task_amounts ?hn_Task_rows ?hn_Task_worths ?hcs ?hct ?hv_MOST_NUMBER ?hv_MOST_PLACES ?hv_MOST_ROWS ?hz_ValueError ?hz_abs ?hz_all ?hz_bool ?hz_int ?hz_isinstance ?hz_len ?hz_list ?hz_range ?hz_sum ?hz_tuple ?xa_BadTask ?xb_BadTask ?xc_BadTask ?xd_BadTask ?xe_BadTask ?xf_BadTask ?xg_BadTask ?xh_BadTask ?xi_BadTask ?xj_BadTask ?xk_BadTask ?xl_BadTask ?xm_BadTask ?xo_BadTask ?xp_BadTask ?xq_BadTask ?xr_BadTask ?xs_BadTask ?xt_BadTask ?xu_BadTask ?xv_BadTask ?xw_BadTask ?xsup ?xtp ?xtop ?ym_BadTask_TurnError ?yk_BadTask_BadTask ?yk_BadTask_ValueError
      (case ha_Task => k_is)
      (case ha_TurnError => k_is)
      (case ha_BadTask => k_is)
      (case ha__law_pool => k_is)
      (case hl__law_pool => k_is)
      (case hc__law_pool => k_is)
      (case hk__law_pool => k_is)
      (case ha__law_draw => k_is)
      (case hl__law_draw => k_is)
      (case hc__law_draw => k_is)
      (case hk__law_draw => k_is)
      (case ha__law_number => k_is)
      (case hl__law_number => k_is)
      (case hc__law_number => k_is)
      (case hk__law_number => k_is)
      (case ha_is_integer => k_is)
      (case hl_is_integer => k_is)
      (case hc_is_integer => k_is)
      (case hk_is_integer => k_is)
      (case ha_are_integers => k_is)
      (case hl_are_integers => k_is)
      (case hc_are_integers => k_is)
      (case hk_are_integers => k_is)
      (case ha_are_within => k_is)
      (case hl_are_within => k_is)
      (case hc_are_within => k_is)
      (case hk_are_within => k_is)
      (case ha_are_numbers => k_is)
      (case hl_are_numbers => k_is)
      (case hc_are_numbers => k_is)
      (case hk_are_numbers => k_is)
      (case ha_Task___init__ => k_is)
      (case hl_Task___init__ => k_is)
      (case hc_Task___init__ => k_is)
      (case hk_Task___init__ => k_is)
      (case hf_Task___init__ => k_is)
      (case ha__law_told => k_is)
      (case hl__law_told => k_is)
      (case hc__law_told => k_is)
      (case hk__law_told => k_is)
      (case ha__law_is_int => k_is)
      (case hl__law_is_int => k_is)
      (case hc__law_is_int => k_is)
      (case hk__law_is_int => k_is)
      (case ha__law_are_ints => k_is)
      (case hl__law_are_ints => k_is)
      (case hc__law_are_ints => k_is)
      (case hk__law_are_ints => k_is)
      (case ha__law_are_numbers => k_is)
      (case hl__law_are_numbers => k_is)
      (case hc__law_are_numbers => k_is)
      (case hk__law_are_numbers => k_is)
      (case ha__law_due => k_is)
      (case hl__law_due => k_is)
      (case hc__law_due => k_is)
      (case hk__law_due => k_is)
      (case ha_Task___eq__ => k_is)
      (case hl_Task___eq__ => k_is)
      (case hc_Task___eq__ => k_is)
      (case hk_Task___eq__ => k_is)
      (case hf_Task___eq__ => k_is)
      (case ha__law_is_right => k_is)
      (case hl__law_is_right => k_is)
      (case hc__law_is_right => k_is)
      (case hk__law_is_right => k_is)
      (case ha__law_deep => k_is)
      (case hl__law_deep => k_is)
      (case hc__law_deep => k_is)
      (case hk__law_deep => k_is)
      (case ha__law_bent => k_is)
      (case hl__law_bent => k_is)
      (case hc__law_bent => k_is)
      (case hk__law_bent => k_is)
      (case ha__law_bent_rows => k_is)
      (case hl__law_bent_rows => k_is)
      (case hc__law_bent_rows => k_is)
      (case hk__law_bent_rows => k_is)
      (case ha__law_odd => k_is)
      (case hl__law_odd => k_is)
      (case hc__law_odd => k_is)
      (case hk__law_odd => k_is)
      (case ha_law => k_is)
      (case hl_law => k_is)
      (case hc_law => k_is)
      (case hk_law => k_is)
      (case hp1_Task => k_is)
      (case hp2_Task => k_is)
      (case hp3_Task => k_is)
      (case hp4_Task => k_is)
      (case hp5_Task => k_is)
      (case hp7_Task => first | k_is | kernel_rfl | rfl)
      (case hp8_Task => k_is)
      (case hm_Task => k_is)
      (case hq_Task => k_is)
      (case hn_Task_amounts => k_is)
      (case hn_Task_rows => k_is)
      (case hn_Task_worths => k_is)
      (case hcs => k_is)
      (case hct => k_is)
      (case hv_MOST_NUMBER => k_is)
      (case hv_MOST_PLACES => k_is)
      (case hv_MOST_ROWS => k_is)
      (case hz_ValueError => k_is)
      (case hz_abs => k_is)
      (case hz_all => k_is)
      (case hz_bool => k_is)
      (case hz_int => k_is)
      (case hz_isinstance => k_is)
      (case hz_len => k_is)
      (case hz_list => k_is)
      (case hz_range => k_is)
      (case hz_sum => k_is)
      (case hz_tuple => k_is)
      (case xa_BadTask => k_is)
      (case xb_BadTask => k_is)
      (case xc_BadTask => k_is)
      (case xd_BadTask => k_is)
      (case xe_BadTask => k_is)
      (case xf_BadTask => k_is)
      (case xg_BadTask => k_is)
      (case xh_BadTask => k_is)
      (case xi_BadTask => first | k_is | kernel_rfl | rfl)
      (case xj_BadTask => k_is)
      (case xk_BadTask => k_is)
      (case xl_BadTask => first | rfl | kernel_rfl | decide +kernel)
      (case xm_BadTask => first | rfl | kernel_rfl | decide +kernel)
      (case xo_BadTask => k_is)
      (case xp_BadTask => k_is)
      (case xq_BadTask => k_is)
      (case xr_BadTask => k_is)
      (case xs_BadTask => k_is)
      (case xt_BadTask => k_is)
      (case xu_BadTask => k_is)
      (case xv_BadTask => k_is)
      (case xw_BadTask => k_is)
      (case xsup => k_is)
      (case xtp => k_is)
      (case xtop => first | rfl | kernel_rfl | decide +kernel)
      (case ym_BadTask_TurnError => first | k_is | kernel_rfl | rfl)
      (case yk_BadTask_BadTask => first | k_is | kernel_rfl | rfl)
      (case yk_BadTask_ValueError => first | k_is | kernel_rfl | rfl)
    exact ⟨fd, hb, fun base hK hG => DL.law_imp (hF base hK hG) (Lk24.law_true _)⟩
