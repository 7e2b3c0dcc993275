import PyProof.Rows.All
import HandS.ForMost
import HandS.Exc
import HandS.TryOnly
import HandS.TryMany
import HandS.ExcOwn
import HandS.WordsExc
import HandS.CallSlots
import HandS.IsInst
import HandS.Wide
import HandS.TupAny
import KE.SortData
import KE.KeyNested
import KE.KExcSuper
import KE.KExcIs
import HandS.ExcIs
import HandS.ExcField
import HandS.TupMul
import HandS.Dict
import HandS.EndBits
import KE.DataCmp
import HandS.Iter
import KE.GoesEnum
import HandS.TupSets
import HandS.Conv
import HandS.SortInts
import KE.GoesMore
import HandS.Style
import KE.KRevSl
import KE.DatumMore
import PySem.Challenge.RW_turnsneeded_k03_whole_steps_turned_and_s
set_option Elab.async false
set_option linter.all false
set_option maxRecDepth 100000
set_option maxHeartbeats 4000000
set_option autoImplicit false
/-! DL1: data, cells, states, results; what an expression, a test, a statement, a def computes as a plain function of them. -/
namespace DL
open PySem PySem.Spec PyProof.Rows L2

abbrev St := L2.St
/-- a value as data: nothing of it is written any more -/
inductive D where
  | non | bl (b : Bool) | int (i : Int) | str (x : Str)
  | tup (ds : List D) | lst (ds : List D)
  | scr (ns : List Int)
  | ins (C : Addr) (fs : List (Str × D))
  | typ (n : String) | adr (a : Addr)
  | dct (kvs : List (Key × D))
  | xn (a : Addr) (C : Addr) (d : Option Addr) (fs : List (Str × D))
instance : Inhabited D := ⟨.non⟩
/-- what a slot holds: data, the n-th cell, the list within the n-th cell (a tape) -/
inductive S where
  | d (x : D) | c (n : Nat) | i (n : Nat)
instance : Inhabited S := ⟨.d .non⟩
/-- a thing that is still written; tp: a list of data with one list of ints in it -/
inductive Cell where
  | lst (xs : List D) | ins (C : Addr) (fs : List (Str × D)) | dk (kvs : List (Key × D)) | tp (pre : List D) (cs : List Int) (post : List D) | dead
abbrev G := List Cell
abbrev Env := List (Option S)
/-- a result: a value; an exception of the class at C with its fields; nothing is said -/
inductive R (α : Type) where
  | ok (a : α) (g : G) | exc (C : Addr) (fs : List (Str × D)) (g : G) | bad
def R.bind {α β : Type} (r : R α) (f : α → G → R β) : R β :=
  match r with
  | .ok a g => f a g
  | .exc C fs g => .exc C fs g
  | .bad => .bad
@[simp] theorem R.bind_ok {α β : Type} (a : α) (g : G) (f : α → G → R β) : (R.ok a g).bind f = f a g := rfl
@[simp] theorem R.bind_exc {α β : Type} (C fs g) (f : α → G → R β) : (R.exc C fs g : R α).bind f = .exc C fs g := rfl
@[simp] theorem R.bind_bad {α β : Type} (f : α → G → R β) : (R.bad : R α).bind f = .bad := rfl
abbrev DE (α : Type) := Env → G → R α
/-- a def as a function -/
abbrev DF := List S → G → R S

/-! ### what stands for what -/
/-- a plain class of the program, object its only base -/
structure KC (K : PySem.W.Frag) (C : Addr) : Prop where
  cl : Cls K C
  ha : PySem.W.findIn K (.ref C) "__class__" = some (some (.builtin "object.__class__"))
  hn : PySem.W.specialIn K (.builtin "object.__class__") "__get__" = some (some (.builtin "getset_descriptor.__get__"))
  htk : PySem.W.takesIn K (.builtin "object.__class__") = some true
  cd : ∃ cd, PySem.W.clsIn K C = some cd ∧ cd.mro = [.ref C, .type "object"]
  ty : PySem.W.typeIn K (.ref C) = some (.type "type")
mutual
inductive Dn (K : PySem.W.Frag) (F : Hp) : V → D → Prop
  | non : Dn K F .non .non
  | bl (b : Bool) : Dn K F (.bl b) (.bl b)
  | int (i : Int) : Dn K F (.int i) (.int i)
  | str (x : Str) : Dn K F (.str x) (.str x)
  | tup {a : Addr} {xs : List V} {ds : List D} : SqT K F a xs → DnL K F xs ds → Dn K F (.ref a) (.tup ds)
  | lst {a : Addr} {xs : List V} {ds : List D} : F a = some (.lst xs) → DnL K F xs ds → Dn K F (.ref a) (.lst ds)
  | scr {a : Addr} {ns : List Int} : SqL K F a (ns.map V.int) → Dn K F (.ref a) (.scr ns)
  | ins {a C dx : Addr} {fs : List (Str × V)} {gs : List (Str × D)} : KC K C → F a = some (.ins C dx fs) → DnF K F fs gs → Dn K F (.ref a) (.ins C gs)
  | typ (n : String) : Dn K F (.ty n) (.typ n)
  | adr (a : Addr) : Dn K F (.ref a) (.adr a)
  | dct {a : Addr} {kvs : List (Key × V)} {ds : List (Key × D)} : F a = some (.dK kvs) → DnK K F kvs ds → Dn K F (.ref a) (.dct ds)
  | xn0 (a C : Addr) : Dn K F (.ref a) (.xn a C none [])
  | xn1 {a C dx : Addr} {fs : List (Str × V)} {gs : List (Str × D)} : F dx = some (.xd fs) → DnF K F fs gs → Dn K F (.ref a) (.xn a C (some dx) gs)
inductive DnL (K : PySem.W.Frag) (F : Hp) : List V → List D → Prop
  | nil : DnL K F [] []
  | cons {v : V} {vs : List V} {d : D} {ds : List D} : Dn K F v d → DnL K F vs ds → DnL K F (v :: vs) (d :: ds)
inductive DnF (K : PySem.W.Frag) (F : Hp) : List (Str × V) → List (Str × D) → Prop
  | nil : DnF K F [] []
  | cons {f : Str} {v : V} {vs : List (Str × V)} {d : D} {ds : List (Str × D)} : Dn K F v d → DnF K F vs ds → DnF K F ((f, v) :: vs) ((f, d) :: ds)
inductive DnK (K : PySem.W.Frag) (F : Hp) : List (Key × V) → List (Key × D) → Prop
  | nil : DnK K F [] []
  | cons {k : Key} {v : V} {vs : List (Key × V)} {d : D} {ds : List (Key × D)} : Dn K F v d → DnK K F vs ds → DnK K F ((k, v) :: vs) ((k, d) :: ds)
end
/-- all that was known is as it was -/
abbrev Ex (H H' : Hp) : Prop := ∀ a o, H a = some o → H' a = some o
theorem ex_rd {H H' : Hp} {a : Addr} {u : HO} (e : Ex H H') (h : Rd H a u) : Rd H' a u := by
  rcases h with h | ⟨o, h⟩
  · exact .inl (e _ _ h)
  · exact .inr ⟨o, e _ _ h⟩
theorem ex_l {K : PySem.W.Frag} {H H' : Hp} {a : Addr} {xs : List V} (e : Ex H H') (h : SqL K H a xs) : SqL K H' a xs := by
  rcases h with h | h
  · exact .inl (ex_rd e h)
  · exact .inr h
theorem ex_t {K : PySem.W.Frag} {H H' : Hp} {a : Addr} {xs : List V} (e : Ex H H') (h : SqT K H a xs) : SqT K H' a xs := by
  rcases h with h | h
  · exact .inl (ex_rd e h)
  · exact .inr h
theorem ex_trans {H H1 H2 : Hp} (a : Ex H H1) (b : Ex H1 H2) : Ex H H2 := fun x o h => b x o (a x o h)
section
variable {K : PySem.W.Frag} {F F' : Hp}
mutual
theorem Dn.mono (e : Ex F F') : ∀ {v : V} {d : D}, Dn K F v d → Dn K F' v d
  | _, _, .non => .non
  | _, _, .bl b => .bl b
  | _, _, .int i => .int i
  | _, _, .str x => .str x
  | _, _, .tup h r => .tup (ex_t e h) (DnL.mono e r)
  | _, _, .lst h r => .lst (e _ _ h) (DnL.mono e r)
  | _, _, .scr h => .scr (ex_l e h)
  | _, _, .ins k h r => .ins k (e _ _ h) (DnF.mono e r)
  | _, _, .typ n => .typ n
  | _, _, .adr a => .adr a
  | _, _, .dct h r => .dct (e _ _ h) (DnK.mono e r)
  | _, _, .xn0 a C => .xn0 a C
  | _, _, .xn1 h r => .xn1 (e _ _ h) (DnF.mono e r)
theorem DnL.mono (e : Ex F F') : ∀ {vs : List V} {ds : List D}, DnL K F vs ds → DnL K F' vs ds
  | _, _, .nil => .nil
  | _, _, .cons h r => .cons (Dn.mono e h) (DnL.mono e r)
theorem DnF.mono (e : Ex F F') : ∀ {vs : List (Str × V)} {ds : List (Str × D)}, DnF K F vs ds → DnF K F' vs ds
  | _, _, .nil => .nil
  | _, _, .cons h r => .cons (Dn.mono e h) (DnF.mono e r)
theorem DnK.mono (e : Ex F F') : ∀ {vs : List (Key × V)} {ds : List (Key × D)}, DnK K F vs ds → DnK K F' vs ds
  | _, _, .nil => .nil
  | _, _, .cons h r => .cons (Dn.mono e h) (DnK.mono e r)
end
theorem DnL.length : ∀ {vs : List V} {ds : List D}, DnL K F vs ds → vs.length = ds.length
  | _, _, .nil => rfl
  | _, _, .cons _ r => by simp [DnL.length r]
theorem DnL.get : ∀ {vs : List V} {ds : List D} {i : Nat} {d : D}, DnL K F vs ds → ds[i]? = some d → ∃ v, vs[i]? = some v ∧ Dn K F v d
  | _, _, _, _, .nil, h => by simp at h
  | _, _, 0, _, .cons h _, e => by simp at e; subst e; exact ⟨_, rfl, h⟩
  | _, _, i + 1, _, .cons _ r, e => by
    obtain ⟨v, h1, h2⟩ := DnL.get (i := i) r (by simpa using e)
    exact ⟨v, by simpa using h1, h2⟩
theorem DnL.append : ∀ {vs ws : List V} {ds es : List D}, DnL K F vs ds → DnL K F ws es → DnL K F (vs ++ ws) (ds ++ es)
  | _, _, _, _, .nil, q => q
  | _, _, _, _, .cons h r, q => .cons h (DnL.append r q)
theorem DnL.take : ∀ {vs : List V} {ds : List D} (n : Nat), DnL K F vs ds → DnL K F (vs.take n) (ds.take n)
  | _, _, 0, _ => by simpa using DnL.nil
  | _, _, _ + 1, .nil => .nil
  | _, _, n + 1, .cons h r => .cons h (DnL.take n r)
theorem DnL.drop : ∀ {vs : List V} {ds : List D} (n : Nat), DnL K F vs ds → DnL K F (vs.drop n) (ds.drop n)
  | _, _, 0, r => r
  | _, _, _ + 1, .nil => .nil
  | _, _, n + 1, .cons _ r => DnL.drop n r
theorem DnL.reverse : ∀ {vs : List V} {ds : List D}, DnL K F vs ds → DnL K F vs.reverse ds.reverse
  | _, _, .nil => .nil
  | _, _, .cons h r => by simpa using (DnL.reverse r).append (.cons h .nil)
theorem DnL.ints : ∀ ns : List Int, DnL K F (ns.map V.int) (ns.map D.int)
  | [] => .nil
  | n :: ns => .cons (.int n) (DnL.ints ns)
theorem DnF.length : ∀ {vs : List (Str × V)} {ds : List (Str × D)}, DnF K F vs ds → vs.length = ds.length
  | _, _, .nil => rfl
  | _, _, .cons _ r => by simp [DnF.length r]
theorem DnF.lookup {f : Str} : ∀ {vs : List (Str × V)} {ds : List (Str × D)} {d : D}, DnF K F vs ds → ds.lookup f = some d → ∃ v, vs.lookup f = some v ∧ Dn K F v d
  | _, _, _, .nil, h => by simp at h
  | (g, v) :: vs, (_, d') :: ds, d, .cons h r, e => by
    rw [List.lookup_cons] at e ⊢
    cases q : f == g with
    | true => rw [q] at e; simp at e; subst e; exact ⟨v, rfl, h⟩
    | false => rw [q] at e; exact DnF.lookup r e
theorem DnF.lookup_none {f : Str} : ∀ {vs : List (Str × V)} {ds : List (Str × D)}, DnF K F vs ds → ds.lookup f = none → vs.lookup f = none
  | _, _, .nil, _ => rfl
  | (g, v) :: vs, (_, d') :: ds, .cons h r, e => by
    rw [List.lookup_cons] at e ⊢
    cases q : f == g with
    | true => rw [q] at e; simp at e
    | false => rw [q] at e; exact DnF.lookup_none r e
end

/-! ### slots, cells, states -/
/-- where the cells lie: their objects' addresses -/
abbrev Mp := List (List Addr)
inductive Sn (K : PySem.W.Frag) (μ : Mp) (F : Hp) : V → S → Prop
  | d {v : V} {x : D} : Dn K F v x → Sn K μ F v (.d x)
  | c {n : Nat} {a : Addr} {l : List Addr} : μ[n]? = some (a :: l) → Sn K μ F (.ref a) (.c n)
  | i {n : Nat} {a b : Addr} {l : List Addr} : μ[n]? = some (a :: b :: l) → Sn K μ F (.ref b) (.i n)
abbrev SnL (K : PySem.W.Frag) (μ : Mp) (F : Hp) : List V → List S → Prop := Paired (Sn K μ F)
/-- the earlier state is kept: cells keep their places, what is frozen stays -/
structure Ext (μ : Mp) (F : Hp) (μ' : Mp) (F' : Hp) : Prop where
  m : ∀ (n : Nat) (a : List Addr), μ[n]? = some a → μ'[n]? = some a
  f : Ex F F'
theorem Ext.refl (μ : Mp) (F : Hp) : Ext μ F μ F := ⟨fun _ _ h => h, fun _ _ h => h⟩
theorem Ext.trans {μ μ1 μ2 : Mp} {F F1 F2 : Hp} (a : Ext μ F μ1 F1) (b : Ext μ1 F1 μ2 F2) : Ext μ F μ2 F2 := ⟨fun n x h => b.m n x (a.m n x h), ex_trans a.f b.f⟩
theorem Sn.mono {K : PySem.W.Frag} {μ μ' : Mp} {F F' : Hp} (e : Ext μ F μ' F') {v : V} {s : S} (h : Sn K μ F v s) : Sn K μ' F' v s := by
  cases h with
  | d h => exact .d (h.mono e.f)
  | c h => exact .c (e.m _ _ h)
  | i h => exact .i (e.m _ _ h)
theorem SnL.mono {K : PySem.W.Frag} {μ μ' : Mp} {F F' : Hp} (e : Ext μ F μ' F') {v : List V} {s : List S} (h : SnL K μ F v s) : SnL K μ' F' v s := Paired.mapP h fun _ _ q => q.mono e
def CellOk (K : PySem.W.Frag) (F H : Hp) (fp : List Addr) : Cell → Prop
  | .lst ds => ∃ a, fp = [a] ∧ F a = none ∧ ∃ xs, H a = some (.lst xs) ∧ DnL K F xs ds
  | .ins C gs => ∃ a, fp = [a] ∧ F a = none ∧ ∃ dx fs, H a = some (.ins C dx fs) ∧ DnF K F fs gs ∧ KC K C
  | .dk kvs => ∃ a, fp = [a] ∧ F a = none ∧ ∃ xs, H a = some (.dK xs) ∧ DnK K F xs kvs
  | .tp pre cs post => ∃ a b, fp = [a, b] ∧ a ≠ b ∧ F a = none ∧ F b = none ∧ ∃ xs ys, H a = some (.lst (xs ++ .ref b :: ys)) ∧ DnL K F xs pre ∧ DnL K F ys post ∧ H b = some (.lst (cs.map V.int))
  | .dead => True
theorem CellOk.kn {K : PySem.W.Frag} {F H : Hp} {fp : List Addr} {c : Cell} (h : CellOk K F H fp c) (hd : c ≠ .dead) : ∀ a ∈ fp, F a = none ∧ ∃ o, H a = some o := by
  cases c with
  | dead => exact absurd rfl hd
  | lst ds => obtain ⟨a, rfl, h0, xs, h1, _⟩ := h; intro b hb; simp at hb; subst hb; exact ⟨h0, _, h1⟩
  | ins C gs => obtain ⟨a, rfl, h0, dx, xs, h1, _⟩ := h; intro b hb; simp at hb; subst hb; exact ⟨h0, _, h1⟩
  | dk kvs => obtain ⟨a, rfl, h0, xs, h1, _⟩ := h; intro b hb; simp at hb; subst hb; exact ⟨h0, _, h1⟩
  | tp pre cs post =>
    obtain ⟨a, b, rfl, _, h0, h0', xs, ys, h1, _, _, h2⟩ := h
    intro c hc
    simp at hc
    rcases hc with rfl | rfl
    · exact ⟨h0, _, h1⟩
    · exact ⟨h0', _, h2⟩
/-- the state: F is what is frozen of the heap H, g the cells, at the addresses μ -/
structure Rp (K : PySem.W.Frag) (μ : Mp) (F H : Hp) (g : G) : Prop where
  ex : Ex F H
  len : μ.length = g.length
  ok : ∀ (n : Nat) fp c, μ[n]? = some fp → g[n]? = some c → CellOk K F H fp c
  dj : ∀ (n m : Nat) fp fq c d a, μ[n]? = some fp → μ[m]? = some fq → g[n]? = some c → g[m]? = some d → c ≠ .dead → d ≠ .dead → n ≠ m → a ∈ fp → a ∉ fq
/-- the slots -/
def Ro (K : PySem.W.Frag) (μ : Mp) (F : Hp) : Option V → Option S → Prop
  | _, none => True
  | some v, some s => Sn K μ F v s
  | none, some _ => False
abbrev Re (K : PySem.W.Frag) (μ : Mp) (F : Hp) : List (Option V) → Env → Prop := Paired (Ro K μ F)
theorem Re.mono {K : PySem.W.Frag} {μ μ' : Mp} {F F' : Hp} (e : Ext μ F μ' F') {σ : St} {ρ : Env} (h : Re K μ F σ ρ) : Re K μ' F' σ ρ := Paired.mapP h fun a b q => by
  cases b with
  | none => trivial
  | some b =>
    cases a with
    | none => exact q.elim
    | some a => exact Sn.mono e q
theorem Re.get {K : PySem.W.Frag} {μ : Mp} {F : Hp} : ∀ {σ : St} {ρ : Env} {i : Nat} {s : S}, Re K μ F σ ρ → ρ[i]? = some (some s) → ∃ v, σ[i]? = some (some v) ∧ Sn K μ F v s
  | _, _, _, _, .nil, h => by simp at h
  | _, _, 0, s, .cons (a := a) (b := b) r _, e => by
    simp at e
    subst e
    cases a with
    | none => exact r.elim
    | some v => exact ⟨v, rfl, r⟩
  | _, _, i + 1, s, .cons _ t, e => by
    obtain ⟨v, h1, h2⟩ := Re.get (i := i) t (by simpa using e)
    exact ⟨v, by simpa using h1, h2⟩
theorem Re.set {K : PySem.W.Frag} {μ : Mp} {F : Hp} {v : V} {s : S} (h : Sn K μ F v s) : ∀ {σ : St} {ρ : Env} (i : Nat), Re K μ F σ ρ → Re K μ F (σ.set i (some v)) (ρ.set i (some s))
  | _, _, _, .nil => .nil
  | _, _, 0, .cons _ t => .cons h t
  | _, _, i + 1, .cons r t => .cons r (Re.set h i t)
theorem Re.wipe1 {K : PySem.W.Frag} {μ : Mp} {F : Hp} : ∀ {σ : St} {ρ : Env} (i : Nat), Re K μ F σ ρ → Re K μ F (σ.set i none) (ρ.set i none)
  | _, _, _, .nil => .nil
  | _, _, 0, .cons _ t => .cons trivial t
  | _, _, i + 1, .cons r t => .cons r (Re.wipe1 i t)

/-! ### what is wanted of a result -/
/-- the own dict of an exception, with its fields -/
def Xd (K : PySem.W.Frag) (F : Hp) (d : Option Addr) (gs : List (Str × D)) : Prop :=
  (gs = [] ∧ d = none) ∨ ∃ dx fs, d = some dx ∧ F dx = some (.xd fs) ∧ DnF K F fs gs
theorem Xd.mono {K : PySem.W.Frag} {F F' : Hp} (e : Ex F F') {d : Option Addr} {gs : List (Str × D)} (h : Xd K F d gs) : Xd K F' d gs := by
  rcases h with h | ⟨dx, fs, h1, h2, h3⟩
  · exact .inl h
  · exact .inr ⟨dx, fs, h1, e _ _ h2, h3.mono e⟩
def Post {α β : Type} (rel : Mp → Hp → β → α → Prop) (K : PySem.W.Frag) (μ : Mp) (F : Hp) (E : XK) (r : R α) (Q : β → Hp → Prop) : Prop :=
  match r with
  | .ok a g => ∀ μ' F' H' v, Ext μ F μ' F' → Rp K μ' F' H' g → rel μ' F' v a → Q v H'
  | .exc C fs g => ∀ μ' F' H' d, Ext μ F μ' F' → Rp K μ' F' H' g → Xd K F' d fs → E (.ref C) d H'
  | .bad => False
theorem Post.ext {α β : Type} {rel : Mp → Hp → β → α → Prop} {K : PySem.W.Frag} {μ μ1 : Mp} {F F1 : Hp} {E : XK} {r : R α} {Q : β → Hp → Prop} (e : Ext μ F μ1 F1) (h : Post rel K μ F E r Q) : Post rel K μ1 F1 E r Q := by
  cases r with
  | ok a g => exact fun μ' F' H' v x => h μ' F' H' v (e.trans x)
  | exc C fs g => exact fun μ' F' H' d x => h μ' F' H' d (e.trans x)
  | bad => exact h
theorem Post.imp {α β : Type} {rel : Mp → Hp → β → α → Prop} {K : PySem.W.Frag} {μ : Mp} {F : Hp} {E : XK} {r : R α} {Q Q' : β → Hp → Prop} (h : Post rel K μ F E r Q) (q : ∀ v H, Q v H → Q' v H) : Post rel K μ F E r Q' := by
  cases r with
  | ok a g => exact fun μ' F' H' v x y z => q _ _ (h μ' F' H' v x y z)
  | exc C fs g => exact h
  | bad => exact h
/-- ahead of a step -/
theorem Post.step {α β γ δ : Type} {rel : Mp → Hp → β → α → Prop} {rel' : Mp → Hp → δ → γ → Prop} {K : PySem.W.Frag} {μ : Mp} {F : Hp} {E : XK} {r : R α} {k : α → G → R γ} {Q : δ → Hp → Prop}
    (h : Post rel' K μ F E (r.bind k) Q) : Post rel K μ F E r (fun v H1 => ∃ μ1 F1 a g1, Ext μ F μ1 F1 ∧ Rp K μ1 F1 H1 g1 ∧ rel μ1 F1 v a ∧ Post rel' K μ1 F1 E (k a g1) Q) := by
  cases r with
  | ok a g => exact fun μ' F' H' v x y z => ⟨μ', F', a, g, x, y, z, Post.ext x h⟩
  | exc C fs g => exact h
  | bad => exact h
theorem Post.ok {α β : Type} {rel : Mp → Hp → β → α → Prop} {K : PySem.W.Frag} {μ : Mp} {F H : Hp} {E : XK} {a : α} {g : G} {v : β} {Q : β → Hp → Prop} (h : Post rel K μ F E (.ok a g) Q) (r : Rp K μ F H g) (s : rel μ F v a) : Q v H := h μ F H v (.refl _ _) r s

abbrev relS (K : PySem.W.Frag) : Mp → Hp → V → S → Prop := fun μ F v s => Sn K μ F v s
abbrev relB : Mp → Hp → Bool → Bool → Prop := fun _ _ b c => b = c
abbrev relL (K : PySem.W.Frag) : Mp → Hp → List V → List S → Prop := fun μ F v s => SnL K μ F v s
abbrev XW (W : WX) (σ : St) : XK := fun c d H => W c d σ H
/-- the readings by functions -/
def tD (K : PySem.W.Frag) (W : WX) (f : DE S) : TE := fun σ H Q => ∃ μ F g ρ, Rp K μ F H g ∧ Re K μ F σ ρ ∧ Post (relS K) K μ F (XW W σ) (f ρ g) Q
def tDB (K : PySem.W.Frag) (W : WX) (f : DE Bool) : TT := fun σ H Q => ∃ μ F g ρ, Rp K μ F H g ∧ Re K μ F σ ρ ∧ Post relB K μ F (XW W σ) (f ρ g) Q
def tDL (K : PySem.W.Frag) (W : WX) (f : DE (List S)) : TA := fun σ H Q => ∃ μ F g ρ, Rp K μ F H g ∧ Re K μ F σ ρ ∧ Post (relL K) K μ F (XW W σ) (f ρ g) Q
def ED (X : Cx) (W : WX) (e : Expr) (f : DE S) : Prop := PE X e (tD X.K W f)
def TD (X : Cx) (W : WX) (e : Expr) (f : DE Bool) : Prop := PT X e (tDB X.K W f)
def WD (X : Cx) (W : WX) (e : Expr) (f : DE Bool) : Prop := PW X e (tDB X.K W f)
def LD (X : Cx) (W : WX) (es : List Expr) (f : DE (List S)) : Prop := PA X es (tDL X.K W f)
theorem pe_weak {X : Cx} {e : Expr} {t t' : TE} (h : PE X e t) (k : ∀ σ H Q, t' σ H Q → t σ H Q) : PE X e t' := ⟨fun pins s σ H Q I q => h.run pins s σ H Q I (k σ H Q q)⟩
theorem pt_weak {X : Cx} {e : Expr} {t t' : TT} (h : PT X e t) (k : ∀ σ H Q, t' σ H Q → t σ H Q) : PT X e t' := ⟨fun pins s σ H Q I q => h.run pins s σ H Q I (k σ H Q q)⟩
theorem pw_weak {X : Cx} {e : Expr} {t t' : TT} (h : PW X e t) (k : ∀ σ H Q, t' σ H Q → t σ H Q) : PW X e t' := ⟨fun w pins s σ H Q I q => h.run w pins s σ H Q I (k σ H Q q)⟩
theorem pa_weak {X : Cx} {e : List Expr} {t t' : TA} (h : PA X e t) (k : ∀ σ H Q, t' σ H Q → t σ H Q) : PA X e t' := ⟨fun p pins s σ H Q I q => h.run p pins s σ H Q I (k σ H Q q)⟩
theorem ps_weak {X : Cx} {e : Stmt} {t t' : TS} (h : PS X e t) (k : ∀ D σ H, t' D σ H → t D σ H) : PS X e t' := ⟨fun pins s σ H D I q => h.run pins s σ H D I (k D σ H q)⟩
theorem pss_weak {X : Cx} {e : List Stmt} {t t' : TS} (h : PSs X e t) (k : ∀ D σ H, t' D σ H → t D σ H) : PSs X e t' := ⟨fun pins s σ H D I q => h.run pins s σ H D I (k D σ H q)⟩

/-- the state behind a first operand a, the function of the rest being k -/
def Mid {α β γ δ : Type} (rel : Mp → Hp → β → α → Prop) (rel' : Mp → Hp → δ → γ → Prop) (K : PySem.W.Frag) (W : WX) (σ : St) (ρ : Env) (k : α → G → R γ) (Q : δ → Hp → Prop) (v : β) (H : Hp) : Prop :=
  ∃ μ F a g, Rp K μ F H g ∧ Re K μ F σ ρ ∧ rel μ F v a ∧ Post rel' K μ F (XW W σ) (k a g) Q
theorem tD.step {γ δ : Type} {rel' : Mp → Hp → δ → γ → Prop} {K : PySem.W.Frag} {W : WX} {σ : St} {ρ : Env} {f : DE S} {k : S → G → R γ} {Q : δ → Hp → Prop} {μ : Mp} {F H : Hp} {g : G}
    (r : Rp K μ F H g) (e : Re K μ F σ ρ) (h : Post rel' K μ F (XW W σ) ((f ρ g).bind k) Q) : tD K W f σ H (Mid (relS K) rel' K W σ ρ k Q) :=
  ⟨μ, F, g, ρ, r, e, h.step.imp fun v H1 ⟨μ1, F1, a, g1, x, y, z, p⟩ => ⟨μ1, F1, a, g1, y, e.mono x, z, p⟩⟩
theorem tDB.step {γ δ : Type} {rel' : Mp → Hp → δ → γ → Prop} {K : PySem.W.Frag} {W : WX} {σ : St} {ρ : Env} {f : DE Bool} {k : Bool → G → R γ} {Q : δ → Hp → Prop} {μ : Mp} {F H : Hp} {g : G}
    (r : Rp K μ F H g) (e : Re K μ F σ ρ) (h : Post rel' K μ F (XW W σ) ((f ρ g).bind k) Q) : tDB K W f σ H (Mid relB rel' K W σ ρ k Q) :=
  ⟨μ, F, g, ρ, r, e, h.step.imp fun v H1 ⟨μ1, F1, a, g1, x, y, z, p⟩ => ⟨μ1, F1, a, g1, y, e.mono x, z, p⟩⟩
theorem tDL.step {γ δ : Type} {rel' : Mp → Hp → δ → γ → Prop} {K : PySem.W.Frag} {W : WX} {σ : St} {ρ : Env} {f : DE (List S)} {k : List S → G → R γ} {Q : δ → Hp → Prop} {μ : Mp} {F H : Hp} {g : G}
    (r : Rp K μ F H g) (e : Re K μ F σ ρ) (h : Post rel' K μ F (XW W σ) ((f ρ g).bind k) Q) : tDL K W f σ H (Mid (relL K) rel' K W σ ρ k Q) :=
  ⟨μ, F, g, ρ, r, e, h.step.imp fun v H1 ⟨μ1, F1, a, g1, x, y, z, p⟩ => ⟨μ1, F1, a, g1, y, e.mono x, z, p⟩⟩
end DL
/-! DL2: expressions. -/
namespace DL
open PySem PySem.Spec PyProof.Rows L2

/-! ### reading a slot as data, the cells in it copied -/
def allD : List S → Option (List D)
  | [] => some []
  | .d x :: r => (allD r).map (x :: ·)
  | .c _ :: _ => none
  | .i _ :: _ => none
@[simp] def snapC : Option Cell → Option D
  | some (.lst ds) => some (.lst ds)
  | some (.ins C fs) => some (.ins C fs)
  | some (.dk kvs) => some (.dct kvs)
  | _ => none
@[simp] def snapI : Option Cell → Option D
  | some (.tp _ cs _) => some (.lst (cs.map D.int))
  | _ => none
def snap (g : G) : S → Option D
  | .d x => some x
  | .c n => snapC g[n]?
  | .i n => snapI g[n]?
@[simp] theorem allD_nil : allD [] = some [] := rfl
@[simp] theorem allD_cons (x : D) (r : List S) : allD (.d x :: r) = (allD r).map (x :: ·) := rfl
@[simp] theorem allD_map (xs : List D) : allD (xs.map S.d) = some xs := by
  induction xs with
  | nil => rfl
  | cons x xs ih => simp [ih]
@[simp] theorem snap_d (g : G) (x : D) : snap g (.d x) = some x := rfl
section
variable {K : PySem.W.Frag} {μ : Mp} {F H : Hp} {g : G}
theorem allD_ok : ∀ {vs : List V} {xs : List S} {ds : List D}, SnL K μ F vs xs → allD xs = some ds → DnL K F vs ds
  | _, _, _, .nil, h => by simp [allD] at h; subst h; exact .nil
  | _, .d x :: r, ds, .cons q t, h => by
    rw [allD_cons] at h
    cases e : allD r with
    | none => rw [e] at h; cases h
    | some es =>
      rw [e] at h
      have h' : x :: es = ds := Option.some.inj h
      subst h'
      cases q with
      | d q => exact .cons q (allD_ok t e)
  | _, .c _ :: _, _, .cons _ _, h => by cases h
  | _, .i _ :: _, _, .cons _ _, h => by cases h
theorem Rp.cell (r : Rp K μ F H g) {n : Nat} {fp : List Addr} (h : μ[n]? = some fp) : ∃ c, g[n]? = some c ∧ CellOk K F H fp c := by
  have hl : n < g.length := by rw [← r.len]; exact (List.getElem?_eq_some_iff.mp h).1
  exact ⟨g[n], List.getElem?_eq_getElem hl, r.ok n fp _ h (List.getElem?_eq_getElem hl)⟩
theorem Rp.fp (r : Rp K μ F H g) {n : Nat} {c : Cell} (h : g[n]? = some c) : ∃ fp, μ[n]? = some fp ∧ CellOk K F H fp c := by
  have hl : n < μ.length := by rw [r.len]; exact (List.getElem?_eq_some_iff.mp h).1
  exact ⟨μ[n], List.getElem?_eq_getElem hl, r.ok n _ c (List.getElem?_eq_getElem hl) h⟩
theorem snap_ok (r : Rp K μ F H g) {v : V} {s : S} {d : D} (h : Sn K μ F v s) (e : snap g s = some d) : Dn K H v d := by
  cases h with
  | d h =>
    simp at e; subst e
    exact h.mono r.ex
  | @c n a l h =>
    obtain ⟨c, q, ok⟩ := r.cell h
    have e' : snapC g[n]? = some d := e
    rw [q] at e'
    cases c with
    | dead => cases e'
    | tp => cases e'
    | lst xs => obtain ⟨b, z, _, ys, h1, h2⟩ := ok; cases z; cases e'; exact .lst h1 (h2.mono r.ex)
    | ins C fs => obtain ⟨b, z, _, dx, ys, h1, h2, h3⟩ := ok; cases z; cases e'; exact .ins h3 h1 (h2.mono r.ex)
    | dk kvs => obtain ⟨b, z, _, ys, h1, h2⟩ := ok; cases z; cases e'; exact .dct h1 (h2.mono r.ex)
  | @i n a b l h =>
    obtain ⟨c, q, ok⟩ := r.cell h
    have e' : snapI g[n]? = some d := e
    rw [q] at e'
    cases c with
    | dead => cases e'
    | lst => cases e'
    | ins => cases e'
    | dk => cases e'
    | tp pre cs post => obtain ⟨a', b', z, _, _, _, xs, ys, h1, h2, h3, h4⟩ := ok; cases z; cases e'; exact .lst h4 (DnL.ints _)
/-- a new frozen object -/
theorem Rp.fresh (r : Rp K μ F H g) {p : Addr} (h : H p = none) : F p = none := by
  cases q : F p with
  | none => rfl
  | some o => rw [r.ex p o q] at h; cases h
theorem Ext.new {p : Addr} {o : HO} (h : F p = none) : Ext μ F μ (upd F p o) := ⟨fun _ _ q => q, fun a u e => by rw [upd_ne (ne_of_none e h)]; exact e⟩
/-- the cell's objects and what it holds stay -/
theorem CellOk.mono {F' H' : Hp} {fp : List Addr} {c : Cell} (h : CellOk K F H fp c) (e : Ex F F') (hn : ∀ a ∈ fp, F a = none → F' a = none) (hH : ∀ a ∈ fp, ∀ o, H a = some o → H' a = some o) : CellOk K F' H' fp c := by
  cases c with
  | lst ds => obtain ⟨a, rfl, h0, xs, h1, h2⟩ := h; exact ⟨a, rfl, hn a (by simp) h0, xs, hH a (by simp) _ h1, h2.mono e⟩
  | ins C gs => obtain ⟨a, rfl, h0, dx, fs, h1, h2, h3⟩ := h; exact ⟨a, rfl, hn a (by simp) h0, dx, fs, hH a (by simp) _ h1, h2.mono e, h3⟩
  | dk kvs => obtain ⟨a, rfl, h0, xs, h1, h2⟩ := h; exact ⟨a, rfl, hn a (by simp) h0, xs, hH a (by simp) _ h1, h2.mono e⟩
  | tp pre cs post => obtain ⟨a, b, rfl, hne, h0, h0', xs, ys, h1, h2, h3, h4⟩ := h; exact ⟨a, b, rfl, hne, hn a (by simp) h0, hn b (by simp) h0', xs, ys, hH a (by simp) _ h1, h2.mono e, h3.mono e, hH b (by simp) _ h4⟩
  | dead => trivial
theorem dead_or (c : Cell) : c = .dead ∨ c ≠ .dead := by
  cases c <;> first | exact .inl rfl | exact .inr (by intro z; cases z)
theorem Rp.ne (r : Rp K μ F H g) {p : Addr} (h : H p = none) {n : Nat} {fp : List Addr} {c : Cell} (h1 : μ[n]? = some fp) (h2 : g[n]? = some c) (hd : c ≠ .dead) : ∀ a ∈ fp, a ≠ p := fun a ha z => by
  obtain ⟨_, o, q⟩ := (r.ok n fp c h1 h2).kn hd a ha
  rw [z, h] at q; cases q
theorem Rp.new (r : Rp K μ F H g) {p : Addr} {o : HO} (h : H p = none) : Rp K μ (upd F p o) (upd H p o) g := by
  have hF := r.fresh h
  refine ⟨fun a u e => ?_, r.len, fun n fp c h1 h2 => ?_, r.dj⟩
  · by_cases q : a = p
    · subst q; rw [upd_same] at e ⊢; exact e
    · rw [upd_ne q] at e ⊢; exact r.ex a u e
  · rcases dead_or c with hd | hd
    · subst hd; trivial
    have ha := r.ne h h1 h2 hd
    exact (r.ok n fp c h1 h2).mono (Ext.new (μ := μ) hF).f (fun a x z => by rw [upd_ne (ha a x)]; exact z) fun a x o z => by rw [upd_ne (ha a x)]; exact z
/-- a new object that is not frozen and no cell (an own dict, garbage) -/
theorem Rp.junk (r : Rp K μ F H g) {p : Addr} {o : HO} (h : H p = none) : Rp K μ F (upd H p o) g := by
  refine ⟨fun a u e => ?_, r.len, fun n fp c h1 h2 => ?_, r.dj⟩
  · rw [upd_ne (ne_of_none (r.ex a u e) h)]; exact r.ex a u e
  · rcases dead_or c with hd | hd
    · subst hd; trivial
    have ha := r.ne h h1 h2 hd
    exact (r.ok n fp c h1 h2).mono (fun _ _ h => h) (fun _ _ z => z) fun a x o z => by rw [upd_ne (ha a x)]; exact z
/-- a new cell -/
theorem Ext.push {fp : List Addr} : Ext μ F (μ ++ [fp]) F := ⟨fun n a h => by
  rw [List.getElem?_append_left]
  · exact h
  · exact (List.getElem?_eq_some_iff.mp h).1, fun _ _ h => h⟩
/-- a cell is added, the heap as it is -/
theorem Rp.add (r : Rp K μ F H g) {fp : List Addr} {c : Cell} (hc : CellOk K F H fp c) (hd : ∀ (n : Nat) fq d a, μ[n]? = some fq → g[n]? = some d → d ≠ .dead → a ∈ fp → a ∉ fq) : Rp K (μ ++ [fp]) F H (g ++ [c]) := by
  have cases' : ∀ {n : Nat} {fq : List Addr} {d : Cell}, (μ ++ [fp])[n]? = some fq → (g ++ [c])[n]? = some d → (μ[n]? = some fq ∧ g[n]? = some d ∧ n < μ.length) ∨ (n = μ.length ∧ fq = fp ∧ d = c) := fun {n fq d} h1 h2 => by
    by_cases q : n < μ.length
    · rw [List.getElem?_append_left q] at h1
      rw [List.getElem?_append_left (by rw [← r.len]; exact q)] at h2
      exact .inl ⟨h1, h2, q⟩
    · have q1 : n = μ.length := by
        have := (List.getElem?_eq_some_iff.mp h1).1
        simp at this; omega
      subst q1
      refine .inr ⟨rfl, by simpa using h1.symm, by rw [r.len] at h2; simpa using h2.symm⟩
  refine ⟨r.ex, by simp [r.len], fun n fq d h1 h2 => ?_, fun n m fq fr d d' a h1 h2 h3 h4 h5 h6 h7 h8 => ?_⟩
  · rcases cases' h1 h2 with ⟨q1, q2, _⟩ | ⟨_, rfl, rfl⟩
    · exact r.ok n fq d q1 q2
    · exact hc
  · rcases cases' h1 h3 with ⟨q1, q2, _⟩ | ⟨e1, rfl, rfl⟩
    · rcases cases' h2 h4 with ⟨q3, q4, _⟩ | ⟨_, rfl, rfl⟩
      · exact r.dj n m fq fr d d' a q1 q3 q2 q4 h5 h6 h7 h8
      · exact fun z => hd n fq d a q1 q2 h5 z h8
    · rcases cases' h2 h4 with ⟨q3, q4, _⟩ | ⟨e2, rfl, rfl⟩
      · exact hd m fr d' a q3 q4 h6 h8
      · exact absurd (e1.trans e2.symm) h7
theorem Rp.push (r : Rp K μ F H g) {p : Addr} {o : HO} {c : Cell} (h : H p = none) (hc : CellOk K F (upd H p o) [p] c) : Rp K (μ ++ [[p]]) F (upd H p o) (g ++ [c]) :=
  (r.junk (o := o) h).add hc fun n fq d a h1 h2 hd ha z => by
    simp at ha; subst ha
    exact r.ne h h1 h2 hd a z rfl
/-- an object of a cell is written -/
theorem Rp.write (r : Rp K μ F H g) {n : Nat} {fp : List Addr} {a : Addr} {o : HO} {c c0 : Cell} (hn : μ[n]? = some fp) (h0 : g[n]? = some c0) (ha : a ∈ fp) (hd : c0 ≠ .dead) (hc : CellOk K F (upd H a o) fp c) : Rp K μ F (upd H a o) (g.set n c) := by
  have hF : F a = none := ((r.ok n fp c0 hn h0).kn hd a ha).1
  have cs : ∀ {m : Nat} {d : Cell}, (g.set n c)[m]? = some d → (m = n ∧ d = c) ∨ (m ≠ n ∧ g[m]? = some d) := fun {m d} h => by
    by_cases q : m = n
    · subst q
      rw [List.getElem?_set_self (List.getElem?_eq_some_iff.mp h0).1] at h
      exact .inl ⟨rfl, (Option.some.inj h).symm⟩
    · rw [List.getElem?_set_ne (Ne.symm q)] at h
      exact .inr ⟨q, h⟩
  refine ⟨fun b u e => ?_, by simp [r.len], fun m fq d h1 h2 => ?_, fun m k fq fr d d' b h1 h2 h3 h4 h5 h6 h7 h8 => ?_⟩
  · rw [upd_ne (fun z => by rw [z, hF] at e; cases e)]; exact r.ex b u e
  · rcases cs h2 with ⟨rfl, rfl⟩ | ⟨q, h2⟩
    · rw [hn] at h1; cases h1; exact hc
    · rcases dead_or d with hd' | hd'
      · subst hd'; trivial
      exact (r.ok m fq d h1 h2).mono (fun _ _ h => h) (fun _ _ z => z) fun b hb u z => by
        have hne : b ≠ a := fun e => r.dj n m fp fq c0 d b hn h1 h0 h2 hd hd' (Ne.symm q) (by rw [e]; exact ha) hb
        rw [upd_ne hne]; exact z
  · rcases cs h3 with ⟨e3, _⟩ | ⟨q, h3'⟩
    · rcases cs h4 with ⟨e4, _⟩ | ⟨q', h4'⟩
      · exact absurd (e3.trans e4.symm) h7
      · exact r.dj m k fq fr c0 d' b h1 h2 (by rw [e3]; exact h0) h4' hd h6 h7 h8
    · rcases cs h4 with ⟨e4, _⟩ | ⟨q', h4'⟩
      · exact r.dj m k fq fr d c0 b h1 h2 h3' (by rw [e4]; exact h0) h5 hd h7 h8
      · exact r.dj m k fq fr d d' b h1 h2 h3' h4' h5 h6 h7 h8
/-- a cell goes -/
theorem Rp.kill (r : Rp K μ F H g) {n : Nat} : Rp K μ F H (g.set n .dead) := by
  have cs : ∀ {m : Nat} {d : Cell}, (g.set n .dead)[m]? = some d → d ≠ .dead → m ≠ n ∧ g[m]? = some d := fun {m d} h hd => by
    by_cases q : m = n
    · subst q
      have hl : m < g.length := by
        have := (List.getElem?_eq_some_iff.mp h).1
        simpa using this
      rw [List.getElem?_set_self hl] at h
      exact absurd (Option.some.inj h).symm hd
    · rw [List.getElem?_set_ne (Ne.symm q)] at h
      exact ⟨q, h⟩
  refine ⟨r.ex, by simp [r.len], fun m fq d h1 h2 => ?_, fun m k fq fr d d' b h1 h2 h3 h4 h5 h6 h7 h8 => r.dj m k fq fr d d' b h1 h2 (cs h3 h5).2 (cs h4 h6).2 h5 h6 h7 h8⟩
  rcases dead_or d with hd | hd
  · subst hd; trivial
  · exact r.ok m fq d h1 (cs h2 hd).2
/-- an untracked object is frozen -/
theorem Rp.frz (r : Rp K μ F H g) {a : Addr} {o : HO} (ho : H a = some o) (hF : F a = none) (hn : ∀ (n : Nat) fp c, μ[n]? = some fp → g[n]? = some c → c ≠ .dead → a ∉ fp) : Rp K μ (upd F a o) H g ∧ Ext μ F μ (upd F a o) := by
  refine ⟨⟨fun b u e => ?_, r.len, fun m fq d h1 h2 => ?_, r.dj⟩, Ext.new hF⟩
  · by_cases q : b = a
    · subst q; rw [upd_same] at e; cases e; exact ho
    · rw [upd_ne q] at e; exact r.ex b u e
  · rcases dead_or d with hd' | hd'
    · subst hd'; trivial
    exact (r.ok m fq d h1 h2).mono (Ext.new (μ := μ) hF).f (fun b hb z => by
      have hne : b ≠ a := fun e => hn m fq d h1 h2 hd' (by rw [← e]; exact hb)
      rw [upd_ne hne]; exact z) fun _ _ _ z => z
/-- a cell of one object is frozen: it goes, what was in it is data from now on -/
theorem Rp.freeze (r : Rp K μ F H g) {n : Nat} {a : Addr} {o : HO} {c0 : Cell} (hn : μ[n]? = some [a]) (h0 : g[n]? = some c0) (hd : c0 ≠ .dead) (ho : H a = some o) : Rp K μ (upd F a o) H (g.set n .dead) ∧ Ext μ F μ (upd F a o) :=
  (r.kill (n := n)).frz ho ((r.ok n [a] c0 hn h0).kn hd a (by simp)).1 fun m fp c h1 h2 h3 z => by
    by_cases q : m = n
    · subst q
      rw [List.getElem?_set_self (List.getElem?_eq_some_iff.mp h0).1] at h2
      exact h3 (Option.some.inj h2).symm
    · rw [List.getElem?_set_ne (Ne.symm q)] at h2
      exact r.dj m n fp [a] c c0 a h1 hn h2 h0 h3 hd q z (by simp)
end

/-! ### names, constants -/
section
variable {X : Cx} {W : WX} {e a b c : Expr} {pos : Pos}
@[simp] def varD (i : Nat) : DE S := fun ρ g => match ρ[i]? with
  | some (some s) => .ok s g
  | _ => .bad
theorem ed_var {i : Nat} (h : PE X e (tVar i)) : ED X W e (varD i) := pe_weak h fun σ H Q ⟨μ, F, g, ρ, r, re, q⟩ => by
  unfold varD at q
  cases h : ρ[i]? with
  | none => rw [h] at q; exact q.elim
  | some o =>
    rw [h] at q
    cases o with
    | none => exact q.elim
    | some s =>
      obtain ⟨v, h1, h2⟩ := re.get h
      exact ⟨v, h1, q.ok r h2⟩
@[simp] def cD (d : D) : DE S := fun _ g => .ok (.d d) g
theorem ed_c {v : V} {d : D} (hv : ∀ (K : PySem.W.Frag) (F : Hp), Dn K F v d) (h : PE X e (tC v)) : ED X W e (cD d) := pe_weak h fun σ H Q ⟨μ, F, g, ρ, r, re, q⟩ => Post.ok q r (.d (hv _ _))
theorem ed_int {i : Int} {j} : ED X W (.Constant (.int i) j pos) (cD (.int i)) := ed_c (fun _ _ => .int i) pe_int
theorem ed_bl {i : Bool} {j} : ED X W (.Constant (.bool i) j pos) (cD (.bl i)) := ed_c (fun _ _ => .bl i) pe_bl
theorem ed_non {j} : ED X W (.Constant .none j pos) (cD .non) := ed_c (fun _ _ => .non) pe_non
theorem ed_str {x : Str} {j} : ED X W (.Constant (.str x) j pos) (cD (.str x)) := ed_c (fun _ _ => .str x) pe_str
/-- a constant tuple of the written part -/
theorem ed_k {d : D} {p : Addr} (hv : ∀ (F : Hp), Dn X.K F (.ref p) d) (h : PE X e (tC (.ref p))) : ED X W e (cD d) := pe_weak h fun σ H Q ⟨μ, F, g, ρ, r, re, q⟩ => Post.ok q r (.d (hv _))

/-! ### two operands, by values -/
@[simp] def bin2 (f1 f2 : DE S) (op : S → S → G → R S) : DE S := fun ρ g => (f1 ρ g).bind fun x g1 => (f2 ρ g1).bind fun y g2 => op x y g2
/-- the operation on slots says what the rule r gives -/
def OpD (K : PySem.W.Frag) (r : R2) (op : S → S → G → R S) : Prop :=
  ∀ (μ : Mp) (F H : Hp) (g : G) (E : XK) (x y : V) (a b : S) (Q : VK), Rp K μ F H g → Sn K μ F x a → Sn K μ F y b → Post (relS K) K μ F E (op a b g) Q → r x y H Q
theorem ed_bin {r : R2} {op : S → S → G → R S} {f1 f2 : DE S} (he : ∀ ta tb, PE X a ta → PE X b tb → PE X e (tOp r ta tb)) (h1 : ED X W a f1) (h2 : ED X W b f2) (hop : OpD X.K r op) : ED X W e (bin2 f1 f2 op) :=
  pe_weak (he _ _ h1 h2) fun σ H Q ⟨μ, F, g, ρ, r, re, q⟩ => by
    obtain ⟨μ0, F0, g0, ρ0, r0, re0, p0⟩ := tD.step r re q
    refine ⟨μ0, F0, g0, ρ0, r0, re0, p0.imp fun x H1 ⟨μ1, F1, a1, g1, r1, re1, s1, p1⟩ => ?_⟩
    obtain ⟨μ2, F2, g2, ρ2, r2, re2, p2⟩ := tD.step r1 re1 p1
    refine ⟨μ1, F1, g1, ρ, r1, re1, ?_⟩
    exact p1.step.imp fun y H2 ⟨μ3, F3, b3, g3, x3, r3, s3, p3⟩ => hop μ3 F3 H2 g3 _ x y a1 b3 Q r3 (s1.mono x3) s3 p3
/-- on data -/
@[simp] def opD (f : D → D → Option D) : S → S → G → R S := fun a b g => match snap g a, snap g b with
  | some x, some y => match f x y with
    | some z => .ok (.d z) g
    | none => .bad
  | _, _ => .bad
theorem OpD.of {K : PySem.W.Frag} {r : R2} {f : D → D → Option D} (h : ∀ (F H : Hp) (x y : V) (a b z : D) (Q : VK), Ex F H → Dn K H x a → Dn K H y b → f a b = some z → (∀ v, Dn K F v z → Q v H) → r x y H Q) : OpD K r (opD f) := by
  intro μ F H g E x y a b Q rp sx sy p
  unfold opD at p
  cases e1 : snap g a with
  | none => rw [e1] at p; exact p.elim
  | some d =>
    cases e2 : snap g b with
    | none => rw [e1, e2] at p; exact p.elim
    | some d' =>
      rw [e1, e2] at p
      cases e3 : f d d' with
      | none => simp only [e3] at p; exact p.elim
      | some z =>
        simp only [e3] at p
        exact h F H x y d d' z Q rp.ex (snap_ok rp sx e1) (snap_ok rp sy e2) e3 fun v hv => Post.ok p rp (.d hv)
/-- .. that makes a new object -/
theorem OpD.ofN {K : PySem.W.Frag} {r : R2} {f : D → D → Option D} (h : ∀ (μ : Mp) (F H : Hp) (g : G) (x y : V) (a b z : D) (Q : VK), Rp K μ F H g → Dn K H x a → Dn K H y b → f a b = some z →
    (∀ μ' F' H' v, Ext μ F μ' F' → Rp K μ' F' H' g → Dn K F' v z → Q v H') → r x y H Q) : OpD K r (opD f) := by
  intro μ F H g E x y a b Q rp sx sy p
  unfold opD at p
  cases e1 : snap g a with
  | none => rw [e1] at p; exact p.elim
  | some d =>
    cases e2 : snap g b with
    | none => rw [e1, e2] at p; exact p.elim
    | some d' =>
      rw [e1, e2] at p
      cases e3 : f d d' with
      | none => simp only [e3] at p; exact p.elim
      | some z =>
        simp only [e3] at p
        exact h μ F H g x y d d' z Q rp (snap_ok rp sx e1) (snap_ok rp sy e2) e3 fun μ' F' H' v x y z => p μ' F' H' v x y (.d z)
/-! ### ints -/
def fI (f : Int → Int → D) : D → D → Option D
  | .int i, .int j => some (f i j)
  | _, _ => none
def fIC (c : Int → Int → Bool) (f : Int → Int → D) : D → D → Option D
  | .int i, .int j => if c i j then some (f i j) else none
  | _, _ => none
theorem opd_I0 {K : PySem.W.Frag} {g : Int → Int → V} {f : Int → Int → D} (hg : ∀ i j F, Dn K F (g i j) (f i j)) : OpD K (rI0 g) (opD (fI f)) := OpD.of fun F H x y a b z Q ex hx hy e q => by
  cases hx <;> cases hy <;> first | (cases e; done) | skip
  rename_i i j
  have e' : f i j = z := Option.some.inj e
  subst e'
  exact ⟨i, j, rfl, rfl, q _ (hg _ _ _)⟩
theorem opd_I {K : PySem.W.Frag} {C : Int → Int → Prop} {c : Int → Int → Bool} {g : Int → Int → V} {f : Int → Int → D} (hc : ∀ i j, c i j = true → C i j) (hg : ∀ i j F, Dn K F (g i j) (f i j)) : OpD K (rI C g) (opD (fIC c f)) := OpD.of fun F H x y a b z Q ex hx hy e q => by
  cases hx <;> cases hy <;> first | (cases e; done) | skip
  rename_i i j
  have e0 : (if c i j = true then some (f i j) else none) = some z := e
  by_cases h : c i j = true
  · rw [if_pos h] at e0
    have e' : f i j = z := Option.some.inj e0
    subst e'
    exact ⟨i, j, rfl, rfl, hc _ _ h, q _ (hg _ _ _)⟩
  · rw [if_neg h] at e0; cases e0
def addD := fI fun i j => .int (i + j)
def subD := fI fun i j => .int (i - j)
def lg (i : Int) : Nat := i.natAbs.log2
def mulD := fIC (fun i j => decide (lg i + lg j < 1000000)) fun i j => .int (i * j)
def divD := fIC (fun _ j => decide (j ≠ 0 ∧ lg j < 9000)) fun i j => .int (i.fdiv j)
def modD := fIC (fun _ j => decide (j ≠ 0)) fun i j => .int (i.fmod j)
def powD := fIC (fun i j => decide (0 ≤ j ∧ j ≤ 1000000 ∧ i.natAbs < 2 ^ 64)) fun i j => .int (i ^ j.toNat)
def ltD := fI fun i j => .bl (decide (i < j))
def leD := fI fun i j => .bl (decide (i ≤ j))
def gtD := fI fun i j => .bl (decide (j < i))
def geD := fI fun i j => .bl (decide (j ≤ i))
theorem opd_add {K : PySem.W.Frag} : OpD K (rI0 fun i j => .int (i + j)) (opD addD) := opd_I0 fun _ _ _ => .int _
theorem opd_sub {K : PySem.W.Frag} : OpD K (rI0 fun i j => .int (i - j)) (opD subD) := opd_I0 fun _ _ _ => .int _
theorem opd_mul {K : PySem.W.Frag} : OpD K (rI CMulW fun i j => .int (i * j)) (opD mulD) := opd_I (fun i j h => by have := of_decide_eq_true (show decide (lg i + lg j < 1000000) = true from h); exact this) fun _ _ _ => .int _
def CDivA (_ j : Int) : Prop := j ≠ 0 ∧ lg j < 9000
theorem op_fdivA : OpR X (binaryOp .FloorDiv) (rI CDivA fun i j => .int (i.fdiv j)) := opI fun i j _ _ _ _ _ hc q => floordiv_int hc.1 q (.inl (PyProof.noPylong_of_log2 hc.2))
theorem opd_div {K : PySem.W.Frag} : OpD K (rI CDivA fun i j => .int (i.fdiv j)) (opD divD) := opd_I (fun i j h => by have := of_decide_eq_true (show decide (j ≠ 0 ∧ lg j < 9000) = true from h); exact this) fun _ _ _ => .int _
theorem opd_mod {K : PySem.W.Frag} : OpD K (rI (fun _ j => j ≠ 0) fun i j => .int (i.fmod j)) (opD modD) := opd_I (fun i j h => by have := of_decide_eq_true (show decide (j ≠ 0) = true from h); exact this) fun _ _ _ => .int _
theorem opd_pow {K : PySem.W.Frag} : OpD K (rI CPow fun i j => .int (i ^ j.toNat)) (opD powD) := opd_I (fun i j h => by have := of_decide_eq_true (show decide (0 ≤ j ∧ j ≤ 1000000 ∧ i.natAbs < 2 ^ 64) = true from h); exact this) fun _ _ _ => .int _
theorem opd_lt {K : PySem.W.Frag} : OpD K (rI0 fun i j => .bl (decide (i < j))) (opD ltD) := opd_I0 fun _ _ _ => .bl _
theorem opd_le {K : PySem.W.Frag} : OpD K (rI0 fun i j => .bl (decide (i ≤ j))) (opD leD) := opd_I0 fun _ _ _ => .bl _
theorem opd_gt {K : PySem.W.Frag} : OpD K (rI0 fun i j => .bl (decide (j < i))) (opD gtD) := opd_I0 fun _ _ _ => .bl _
theorem opd_ge {K : PySem.W.Frag} : OpD K (rI0 fun i j => .bl (decide (j ≤ i))) (opD geD) := opd_I0 fun _ _ _ => .bl _
/-! ### == of data -/
mutual
def toPy : D → Option PyData
  | .non => some .none
  | .bl b => some (.bool b)
  | .int i => some (.int i)
  | .str x => some (.str x)
  | .tup ds => (toPyL ds).map .tuple
  | .lst ds => (toPyL ds).map .list
  | .scr ns => some (.list (ns.map .int))
  | .ins _ _ => none
  | .typ _ => none
  | .adr _ => none
  | .xn .. => none
  | .dct _ => none
def toPyL : List D → Option (List PyData)
  | [] => some []
  | d :: ds => match toPy d, toPyL ds with
    | some x, some xs => some (x :: xs)
    | _, _ => none
end
theorem dpAll_ints {K : PySem.W.Frag} {H : Hp} : ∀ ns : List Int, DpAll K H (ns.map V.int) (ns.map PyData.int)
  | [] => .nil
  | n :: ns => .cons (.int n) (dpAll_ints ns)
mutual
theorem toPy_ok {K : PySem.W.Frag} {H : Hp} : ∀ {d : D} {v : V} {p : PyData}, Dn K H v d → toPy d = some p → Dp K H v p
  | .non, _, _, .non, e => by simp [toPy] at e; subst e; exact .non
  | .bl b, _, _, .bl _, e => by simp [toPy] at e; subst e; exact .bl b
  | .int b, _, _, .int _, e => by simp [toPy] at e; subst e; exact .int b
  | .str b, _, _, .str _, e => by simp [toPy] at e; subst e; exact .str b
  | .tup ds, _, _, .tup h r, e => by
    simp only [toPy] at e
    cases q : toPyL ds with
    | none => rw [q] at e; cases e
    | some xs => rw [q] at e; simp at e; subst e; exact .tup h (toPyL_ok r q)
  | .lst ds, _, _, .lst h r, e => by
    simp only [toPy] at e
    cases q : toPyL ds with
    | none => rw [q] at e; cases e
    | some xs => rw [q] at e; simp at e; subst e; exact .lst (SqL.of h) (toPyL_ok r q)
  | .scr ns, _, _, .scr h, e => by
    simp [toPy] at e; subst e
    exact .lst h (dpAll_ints ns)
theorem toPyL_ok {K : PySem.W.Frag} {H : Hp} : ∀ {ds : List D} {vs : List V} {ps : List PyData}, DnL K H vs ds → toPyL ds = some ps → DpAll K H vs ps
  | [], _, _, .nil, e => by simp [toPyL] at e; subst e; exact .nil
  | d :: ds, _, _, .cons h r, e => by
    simp only [toPyL] at e
    cases q : toPy d with
    | none => rw [q] at e; cases e
    | some x =>
      cases q' : toPyL ds with
      | none => rw [q, q'] at e; cases e
      | some xs => rw [q, q'] at e; simp at e; subst e; exact .cons (toPy_ok h q) (toPyL_ok r q')
end
def eqF (d e : D) : Option Bool := match toPy d, toPy e with
  | some x, some y => if SeqAt.shaped x && SeqAt.shaped y then some (PyData.eqv x y) else none
  | _, _ => none
def eqD (d e : D) : Option D := (eqF d e).map D.bl
def neD (d e : D) : Option D := (eqF d e).map fun b => D.bl (!b)
theorem opd_eq {K : PySem.W.Frag} : OpD K (rEqD K) (opD eqD) := OpD.of fun F H x y a b z Q ex hx hy e q => by
  unfold eqD eqF at e
  cases h1 : toPy a with
  | none => rw [h1] at e; cases e
  | some p =>
    cases h2 : toPy b with
    | none => rw [h1, h2] at e; cases e
    | some p' =>
      rw [h1, h2] at e
      simp only at e
      split at e
      · rename_i hs
        obtain ⟨s1, s2⟩ := Bool.and_eq_true_iff.mp hs
        have e' : D.bl (PyData.eqv p p') = z := Option.some.inj e
        subst e'
        exact ⟨p, p', toPy_ok hx h1, toPy_ok hy h2, s1, s2, q _ (.bl _)⟩
      · cases e
theorem opd_ne {K : PySem.W.Frag} : OpD K (rNeD K) (opD neD) := OpD.of fun F H x y a b z Q ex hx hy e q => by
  unfold neD eqF at e
  cases h1 : toPy a with
  | none => rw [h1] at e; cases e
  | some p =>
    cases h2 : toPy b with
    | none => rw [h1, h2] at e; cases e
    | some p' =>
      rw [h1, h2] at e
      simp only at e
      split at e
      · rename_i hs
        obtain ⟨s1, s2⟩ := Bool.and_eq_true_iff.mp hs
        have e' : D.bl (!PyData.eqv p p') = z := Option.some.inj e
        subst e'
        exact ⟨p, p', toPy_ok hx h1, toPy_ok hy h2, s1, s2, q _ (.bl _)⟩
      · cases e
/-! ### the terms -/
variable {f1 f2 : DE S}
theorem ed_add (h1 : ED X W a f1) (h2 : ED X W b f2) : ED X W (.BinOp a .Add b pos) (bin2 f1 f2 (opD addD)) := ed_bin (fun _ _ p q => pe_op op_add p q) h1 h2 opd_add
theorem ed_sub (h1 : ED X W a f1) (h2 : ED X W b f2) : ED X W (.BinOp a .Sub b pos) (bin2 f1 f2 (opD subD)) := ed_bin (fun _ _ p q => pe_op op_sub p q) h1 h2 opd_sub
theorem ed_mul (h1 : ED X W a f1) (h2 : ED X W b f2) : ED X W (.BinOp a .Mult b pos) (bin2 f1 f2 (opD mulD)) := ed_bin (fun _ _ p q => pe_op op_mulW p q) h1 h2 opd_mul
theorem ed_div (h1 : ED X W a f1) (h2 : ED X W b f2) : ED X W (.BinOp a .FloorDiv b pos) (bin2 f1 f2 (opD divD)) := ed_bin (fun _ _ p q => pe_op op_fdivA p q) h1 h2 opd_div
theorem ed_mod (h1 : ED X W a f1) (h2 : ED X W b f2) : ED X W (.BinOp a .Mod b pos) (bin2 f1 f2 (opD modD)) := ed_bin (fun _ _ p q => pe_op op_modN p q) h1 h2 opd_mod
theorem ed_pow (h1 : ED X W a f1) (h2 : ED X W b f2) : ED X W (.BinOp a .Pow b pos) (bin2 f1 f2 (opD powD)) := ed_bin (fun _ _ p q => pe_op op_pow p q) h1 h2 opd_pow
theorem ed_cmp {op : CmpOp} {r : R2} {o : S → S → G → R S} (ho : OpR X (compareOp op) r) (hop : OpD X.K r o) (h1 : ED X W a f1) (h2 : ED X W b f2) (hm : behindInMarks op b = false) : ED X W (.Compare a [op] [b] pos) (bin2 f1 f2 o) :=
  ed_bin (fun _ _ p q => pe_cmpR ho p q hm) h1 h2 hop
/-- a test, from what a value computes: a flag -/
@[simp] def asB (f : DE S) : DE Bool := fun ρ g => (f ρ g).bind fun s g1 => match s with
  | .d (.bl b) => .ok b g1
  | _ => .bad
theorem asB_post {K : PySem.W.Frag} {μ : Mp} {F : Hp} {E : XK} {r : R S} {Q : Bool → Hp → Prop} (h : Post relB K μ F E (r.bind fun s g1 => match s with
  | .d (.bl b) => .ok b g1
  | _ => .bad) Q) : Post (relS K) K μ F E r (fun x H' => ∃ k, x = .bl k ∧ Q k H') := by
  cases r with
  | exc C fs g => exact h
  | bad => exact h
  | ok s g =>
    cases s with
    | c n => exact h.elim
    | i n => exact h.elim
    | d d =>
      cases d <;> first | exact False.elim h | skip
      rename_i b
      intro μ' F' H' v x y z
      cases z with
      | d z => cases z; exact ⟨b, rfl, h μ' F' H' b x y rfl⟩
theorem td_cmp {op : CmpOp} {r : R2} {o : S → S → G → R S} (ho : OpR X (compareOp op) r) (hop : OpD X.K r o) (h1 : ED X W a f1) (h2 : ED X W b f2) (hm : behindInMarks op b = false) : TD X W (.Compare a [op] [b] pos) (asB (bin2 f1 f2 o)) :=
  pt_weak (pt_cmpR ho h1 h2 hm) fun σ H Q ⟨μ, F, g, ρ, r, re, q⟩ => by
    have q' := asB_post q
    obtain ⟨μ0, F0, g0, ρ0, r0, re0, p0⟩ := tD.step r re q'
    refine ⟨μ0, F0, g0, ρ0, r0, re0, p0.imp fun x H1 ⟨μ1, F1, a1, g1, r1, re1, s1, p1⟩ => ?_⟩
    refine ⟨μ1, F1, g1, ρ, r1, re1, ?_⟩
    exact p1.step.imp fun y H2 ⟨μ3, F3, b3, g3, x3, r3, s3, p3⟩ => hop μ3 F3 H2 g3 _ x y a1 b3 _ r3 (s1.mono x3) s3 p3
theorem td_val {f : DE S} (h : ED X W e f) (he : ∀ whole, isTrue e X.env whole = (do let v ← whole; standAt e.pos; holding [v] (truthy v)) := by intro _; rfl) : TD X W e (asB f) :=
  pt_weak (pt_val h he) fun σ H Q ⟨μ, F, g, ρ, r, re, q⟩ => ⟨μ, F, g, ρ, r, re, asB_post q⟩
/-! ### and, or, not -/
variable {t1 t2 : DE Bool} {rest : List Expr}
@[simp] def andB (t u : DE Bool) : DE Bool := fun ρ g => (t ρ g).bind fun b g1 => if b then u ρ g1 else .ok false g1
@[simp] def orB (t u : DE Bool) : DE Bool := fun ρ g => (t ρ g).bind fun b g1 => if b then .ok true g1 else u ρ g1
@[simp] def notB (t : DE Bool) : DE Bool := fun ρ g => (t ρ g).bind fun b g1 => .ok (!b) g1
theorem wd_and1 (h : TD X W a t1) : WD X W (.BoolOp .And [a] pos) t1 := pw_and1 h
theorem wd_or1 (h : TD X W a t1) : WD X W (.BoolOp .Or [a] pos) t1 := pw_or1 h
theorem wd_and (h : TD X W a t1) (h2 : WD X W (.BoolOp .And (b :: rest) pos) t2) : WD X W (.BoolOp .And (a :: b :: rest) pos) (andB t1 t2) :=
  pw_weak (pw_and h h2) fun σ H Q ⟨μ, F, g, ρ, r, re, q⟩ => by
    obtain ⟨μ0, F0, g0, ρ0, r0, re0, p0⟩ := tDB.step r re q
    refine ⟨μ0, F0, g0, ρ0, r0, re0, p0.imp fun x H1 ⟨μ1, F1, a1, g1, r1, re1, s1, p1⟩ => ?_⟩
    cases s1
    cases x with
    | true => exact ⟨μ1, F1, g1, ρ, r1, re1, p1⟩
    | false => exact Post.ok p1 r1 rfl
theorem wd_or (h : TD X W a t1) (h2 : WD X W (.BoolOp .Or (b :: rest) pos) t2) : WD X W (.BoolOp .Or (a :: b :: rest) pos) (orB t1 t2) :=
  pw_weak (pw_or h h2) fun σ H Q ⟨μ, F, g, ρ, r, re, q⟩ => by
    obtain ⟨μ0, F0, g0, ρ0, r0, re0, p0⟩ := tDB.step r re q
    refine ⟨μ0, F0, g0, ρ0, r0, re0, p0.imp fun x H1 ⟨μ1, F1, a1, g1, r1, re1, s1, p1⟩ => ?_⟩
    cases s1
    cases x with
    | false => exact ⟨μ1, F1, g1, ρ, r1, re1, p1⟩
    | true => exact Post.ok p1 r1 rfl
theorem td_w (h : WD X W a t1) : TD X W a t1 := PW.pt h
theorem td_not (h : TD X W a t1) : TD X W (.UnaryOp .Not a pos) (notB t1) :=
  pt_weak (pt_not h) fun σ H Q ⟨μ, F, g, ρ, r, re, q⟩ => by
    obtain ⟨μ0, F0, g0, ρ0, r0, re0, p0⟩ := tDB.step r re q
    refine ⟨μ0, F0, g0, ρ0, r0, re0, p0.imp fun x H1 ⟨μ1, F1, a1, g1, r1, re1, s1, p1⟩ => ?_⟩
    cases s1
    exact Post.ok p1 r1 rfl
/-- as values -/
@[simp] def andV (f1 f2 : DE S) : DE S := fun ρ g => (f1 ρ g).bind fun s g1 => match s with
  | .d (.bl true) => f2 ρ g1
  | .d (.bl false) => .ok (.d (.bl false)) g1
  | _ => .bad
@[simp] def orV (f1 f2 : DE S) : DE S := fun ρ g => (f1 ρ g).bind fun s g1 => match s with
  | .d (.bl true) => .ok (.d (.bl true)) g1
  | .d (.bl false) => f2 ρ g1
  | _ => .bad
@[simp] def notV (f : DE S) : DE S := fun ρ g => (f ρ g).bind fun s g1 => match s with
  | .d (.bl b) => .ok (.d (.bl (!b))) g1
  | _ => .bad
theorem ed_one {op} (h : ED X W a f1) : ED X W (.BoolOp op [a] pos) f1 := pe_one h
theorem ed_and (h1 : ED X W a f1) (h2 : ED X W (.BoolOp .And (b :: rest) pos) f2) : ED X W (.BoolOp .And (a :: b :: rest) pos) (andV f1 f2) :=
  pe_weak (pe_and h1 h2) fun σ H Q ⟨μ, F, g, ρ, r, re, q⟩ => by
    obtain ⟨μ0, F0, g0, ρ0, r0, re0, p0⟩ := tD.step r re q
    refine ⟨μ0, F0, g0, ρ0, r0, re0, p0.imp fun x H1 ⟨μ1, F1, a1, g1, r1, re1, s1, p1⟩ => ?_⟩
    cases a1 with
    | c n => exact p1.elim
    | i n => exact p1.elim
    | d d =>
      cases d <;> first | exact False.elim p1 | skip
      rename_i b
      cases s1 with
      | d s1 =>
        cases s1
        refine ⟨b, rfl, ?_⟩
        cases b with
        | true => exact ⟨μ1, F1, g1, ρ, r1, re1, p1⟩
        | false => exact Post.ok p1 r1 (.d (.bl _))
theorem ed_or (h1 : ED X W a f1) (h2 : ED X W (.BoolOp .Or (b :: rest) pos) f2) : ED X W (.BoolOp .Or (a :: b :: rest) pos) (orV f1 f2) :=
  pe_weak (pe_or h1 h2) fun σ H Q ⟨μ, F, g, ρ, r, re, q⟩ => by
    obtain ⟨μ0, F0, g0, ρ0, r0, re0, p0⟩ := tD.step r re q
    refine ⟨μ0, F0, g0, ρ0, r0, re0, p0.imp fun x H1 ⟨μ1, F1, a1, g1, r1, re1, s1, p1⟩ => ?_⟩
    cases a1 with
    | c n => exact p1.elim
    | i n => exact p1.elim
    | d d =>
      cases d <;> first | exact False.elim p1 | skip
      rename_i b
      cases s1 with
      | d s1 =>
        cases s1
        refine ⟨b, rfl, ?_⟩
        cases b with
        | false => exact ⟨μ1, F1, g1, ρ, r1, re1, p1⟩
        | true => exact Post.ok p1 r1 (.d (.bl _))
theorem ed_not (h1 : ED X W a f1) : ED X W (.UnaryOp .Not a pos) (notV f1) :=
  pe_weak (pe_not h1) fun σ H Q ⟨μ, F, g, ρ, r, re, q⟩ => by
    obtain ⟨μ0, F0, g0, ρ0, r0, re0, p0⟩ := tD.step r re q
    refine ⟨μ0, F0, g0, ρ0, r0, re0, p0.imp fun x H1 ⟨μ1, F1, a1, g1, r1, re1, s1, p1⟩ => ?_⟩
    cases a1 with
    | c n => exact p1.elim
    | i n => exact p1.elim
    | d d =>
      cases d <;> first | exact False.elim p1 | skip
      rename_i b
      cases s1 with
      | d s1 =>
        cases s1
        exact ⟨b, rfl, Post.ok p1 r1 (.d (.bl _))⟩
@[simp] def ifD (t : DE Bool) (f1 f2 : DE S) : DE S := fun ρ g => (t ρ g).bind fun b g1 => if b then f1 ρ g1 else f2 ρ g1
theorem ed_if (hc : TD X W c t1) (h1 : ED X W a f1) (h2 : ED X W b f2) : ED X W (.IfExp c a b pos) (ifD t1 f1 f2) :=
  pe_weak (pe_ifExp hc h1 h2) fun σ H Q ⟨μ, F, g, ρ, r, re, q⟩ => by
    obtain ⟨μ0, F0, g0, ρ0, r0, re0, p0⟩ := tDB.step r re q
    refine ⟨μ0, F0, g0, ρ0, r0, re0, p0.imp fun x H1 ⟨μ1, F1, a1, g1, r1, re1, s1, p1⟩ => ?_⟩
    cases s1
    cases x with
    | true => exact ⟨μ1, F1, g1, ρ, r1, re1, p1⟩
    | false => exact ⟨μ1, F1, g1, ρ, r1, re1, p1⟩
/-! ### argument lists -/
variable {es : List Expr} {fl : DE (List S)}
@[simp] def nilL : DE (List S) := fun _ g => .ok [] g
@[simp] def consL (f : DE S) (fl : DE (List S)) : DE (List S) := fun ρ g => (f ρ g).bind fun x g1 => (fl ρ g1).bind fun xs g2 => .ok (x :: xs) g2
theorem ld_nil : LD X W [] nilL := pa_weak pa_nil fun σ H Q ⟨μ, F, g, ρ, r, re, q⟩ => Post.ok q r .nil
theorem ld_cons (h : ED X W e f1) (hr : LD X W es fl) (hs : starEach (e :: es) X.env = (false, eval e X.env) :: starEach es X.env := by rfl) : LD X W (e :: es) (consL f1 fl) :=
  pa_weak (pa_cons h hr hs) fun σ H Q ⟨μ, F, g, ρ, r, re, q⟩ => by
    obtain ⟨μ0, F0, g0, ρ0, r0, re0, p0⟩ := tD.step r re q
    refine ⟨μ0, F0, g0, ρ0, r0, re0, p0.imp fun x H1 ⟨μ1, F1, a1, g1, r1, re1, s1, p1⟩ => ?_⟩
    refine ⟨μ1, F1, g1, ρ, r1, re1, ?_⟩
    exact p1.step.imp fun y H2 ⟨μ3, F3, b3, g3, x3, r3, s3, p3⟩ => Post.ok p3 r3 (.cons (s1.mono x3) s3)
/-! ### displays -/
@[simp] def tupD (fl : DE (List S)) : DE S := fun ρ g => (fl ρ g).bind fun xs g1 => match allD xs with
  | some ds => if ds.length ≤ 1000 then .ok (.d (.tup ds)) g1 else .bad
  | none => .bad
theorem le1000 {n : Nat} (h : n ≤ 1000) : n ≤ sizeLine := Nat.le_trans h (by decide)
theorem ed_tup {x1} (h : LD X W es fl) : ED X W (.Tuple es x1 pos) (tupD fl) :=
  pe_weak (pe_tup h) fun σ H Q ⟨μ, F, g, ρ, r, re, q⟩ => by
    obtain ⟨μ0, F0, g0, ρ0, r0, re0, p0⟩ := tDL.step r re q
    refine ⟨μ0, F0, g0, ρ0, r0, re0, p0.imp fun x H1 ⟨μ1, F1, a1, g1, r1, re1, s1, p1⟩ => ?_⟩
    cases e1 : allD a1 with
    | none => simp only [e1] at p1; exact p1.elim
    | some ds =>
      simp only [e1] at p1
      by_cases hl : ds.length ≤ 1000
      · rw [if_pos hl] at p1
        have d1 := allD_ok s1 e1
        refine ⟨by rw [d1.length]; exact le1000 hl, fun p hp => ?_⟩
        exact p1 μ1 _ _ _ (Ext.new (r1.fresh hp)) (r1.new hp) (.d (.tup (SqT.of upd_same) (d1.mono (Ext.new (μ := μ1) (r1.fresh hp)).f)))
      · rw [if_neg hl] at p1; exact p1.elim
/-- a list that is not written any more -/
@[simp] def lstD (fl : DE (List S)) : DE S := fun ρ g => (fl ρ g).bind fun xs g1 => match allD xs with
  | some ds => if ds.length ≤ 1000 then .ok (.d (.lst ds)) g1 else .bad
  | none => .bad
theorem ed_lst (h : LD X W es fl) : ED X W (.List es pos) (lstD fl) :=
  pe_weak (pe_lst h) fun σ H Q ⟨μ, F, g, ρ, r, re, q⟩ => by
    obtain ⟨μ0, F0, g0, ρ0, r0, re0, p0⟩ := tDL.step r re q
    refine ⟨μ0, F0, g0, ρ0, r0, re0, p0.imp fun x H1 ⟨μ1, F1, a1, g1, r1, re1, s1, p1⟩ => ?_⟩
    cases e1 : allD a1 with
    | none => simp only [e1] at p1; exact p1.elim
    | some ds =>
      simp only [e1] at p1
      by_cases hl : ds.length ≤ 1000
      · rw [if_pos hl] at p1
        have d1 := allD_ok s1 e1
        refine ⟨by rw [d1.length]; exact le1000 hl, fun p hp => ?_⟩
        exact p1 μ1 _ _ _ (Ext.new (r1.fresh hp)) (r1.new hp) (.d (.lst upd_same (d1.mono (Ext.new (μ := μ1) (r1.fresh hp)).f)))
      · rw [if_neg hl] at p1; exact p1.elim
/-- a list that is a new cell -/
@[simp] def celD (fl : DE (List S)) : DE S := fun ρ g => (fl ρ g).bind fun xs g1 => match allD xs with
  | some ds => if ds.length ≤ 1000 then .ok (.c g1.length) (g1 ++ [.lst ds]) else .bad
  | none => .bad
theorem ed_cel (h : LD X W es fl) : ED X W (.List es pos) (celD fl) :=
  pe_weak (pe_lst h) fun σ H Q ⟨μ, F, g, ρ, r, re, q⟩ => by
    obtain ⟨μ0, F0, g0, ρ0, r0, re0, p0⟩ := tDL.step r re q
    refine ⟨μ0, F0, g0, ρ0, r0, re0, p0.imp fun x H1 ⟨μ1, F1, a1, g1, r1, re1, s1, p1⟩ => ?_⟩
    cases e1 : allD a1 with
    | none => simp only [e1] at p1; exact p1.elim
    | some ds =>
      simp only [e1] at p1
      by_cases hl : ds.length ≤ 1000
      · rw [if_pos hl] at p1
        have d1 := allD_ok s1 e1
        refine ⟨by rw [d1.length]; exact le1000 hl, fun p hp => ?_⟩
        exact p1 (μ1 ++ [[p]]) F1 _ _ Ext.push (r1.push hp ⟨p, rfl, r1.fresh hp, _, upd_same, d1⟩) (.c (l := []) (by rw [← r1.len]; simp))
      · rw [if_neg hl] at p1; exact p1.elim
/-- freezing what a cell holds -/
@[simp] def frzD (f : DE S) : DE S := fun ρ g => (f ρ g).bind fun s g1 => match s with
  | .d x => .ok (.d x) g1
  | .c n => match snapC g1[n]? with
    | some x => .ok (.d x) (g1.set n .dead)
    | none => .bad
  | .i _ => .bad
theorem snapC_frz {K : PySem.W.Frag} {μ : Mp} {F H : Hp} {g : G} (r : Rp K μ F H g) {v : V} {n : Nat} {x : D} (h : Sn K μ F v (.c n)) (e : snapC g[n]? = some x) : ∃ F', Ext μ F μ F' ∧ Rp K μ F' H (g.set n .dead) ∧ Dn K F' v x := by
  cases h with
  | @c _ a l h =>
    obtain ⟨c, q, ok⟩ := r.cell h
    rw [q] at e
    cases c with
    | dead => cases e
    | tp => cases e
    | lst xs =>
      obtain ⟨b, z, _, ys, h1, h2⟩ := ok; cases z; cases e
      obtain ⟨r', x'⟩ := r.freeze h q (by intro z; cases z) h1
      exact ⟨_, x', r', .lst upd_same (h2.mono x'.f)⟩
    | ins C fs =>
      obtain ⟨b, z, _, dx, ys, h1, h2, h3⟩ := ok; cases z; cases e
      obtain ⟨r', x'⟩ := r.freeze h q (by intro z; cases z) h1
      exact ⟨_, x', r', .ins h3 upd_same (h2.mono x'.f)⟩
    | dk kvs =>
      obtain ⟨b, z, _, ys, h1, h2⟩ := ok; cases z; cases e
      obtain ⟨r', x'⟩ := r.freeze h q (by intro z; cases z) h1
      exact ⟨_, x', r', .dct upd_same (h2.mono x'.f)⟩
theorem ed_frz {f : DE S} (h : ED X W e f) : ED X W e (frzD f) := pe_weak h fun σ H Q ⟨μ, F, g, ρ, r, re, q⟩ => by
  obtain ⟨μ0, F0, g0, ρ0, r0, re0, p0⟩ := tD.step r re q
  refine ⟨μ0, F0, g0, ρ0, r0, re0, p0.imp fun x H1 ⟨μ1, F1, a1, g1, r1, re1, s1, p1⟩ => ?_⟩
  cases a1 with
  | d d => exact Post.ok p1 r1 s1
  | i n => exact p1.elim
  | c n =>
    cases e1 : snapC g1[n]? with
    | none => simp only [e1] at p1; exact p1.elim
    | some d =>
      simp only [e1] at p1
      obtain ⟨F', x', r', d'⟩ := snapC_frz r1 s1 e1
      exact p1 μ1 F' H1 x x' r' (.d d')
end
end DL
/-! DL3: statements, loops, calls. -/
namespace DL
open PySem PySem.Spec PyProof.Rows L2

/-- what a statement comes to -/
inductive O where
  | nx (ρ : Env) (g : G) | rt (s : S) (g : G) | bk (ρ : Env) (g : G) | ct (ρ : Env) (g : G) | exc (C : Addr) (fs : List (Str × D)) (ρ : Env) (g : G) | bad
abbrev DS := Env → G → O
def O.thn (o : O) (k : DS) : O := match o with
  | .nx ρ g => k ρ g
  | .rt s g => .rt s g
  | .bk ρ g => .bk ρ g
  | .ct ρ g => .ct ρ g
  | .exc C fs ρ g => .exc C fs ρ g
  | .bad => .bad
def R.toO {α : Type} (r : R α) (ρ : Env) (k : α → G → O) : O := match r with
  | .ok a g => k a g
  | .exc C fs g => .exc C fs ρ g
  | .bad => .bad
@[simp] theorem O.thn_nx (ρ g) (k : DS) : (O.nx ρ g).thn k = k ρ g := rfl
@[simp] theorem O.thn_rt (s g) (k : DS) : (O.rt s g).thn k = .rt s g := rfl
@[simp] theorem O.thn_bk (ρ g) (k : DS) : (O.bk ρ g).thn k = .bk ρ g := rfl
@[simp] theorem O.thn_ct (ρ g) (k : DS) : (O.ct ρ g).thn k = .ct ρ g := rfl
@[simp] theorem O.thn_exc (C fs ρ g) (k : DS) : (O.exc C fs ρ g).thn k = .exc C fs ρ g := rfl
@[simp] theorem O.thn_bad (k : DS) : O.bad.thn k = .bad := rfl
@[simp] theorem R.toO_ok {α : Type} (a : α) (g ρ) (k : α → G → O) : (R.ok a g).toO ρ k = k a g := rfl
@[simp] theorem R.toO_exc {α : Type} (C fs g ρ) (k : α → G → O) : (R.exc C fs g : R α).toO ρ k = .exc C fs ρ g := rfl
@[simp] theorem R.toO_bad {α : Type} (ρ) (k : α → G → O) : (R.bad : R α).toO ρ k = .bad := rfl

def PostS (K : PySem.W.Frag) (μ : Mp) (F : Hp) (W : WX) (D : Ends) (o : O) : Prop := match o with
  | .nx ρ g => ∀ μ' F' H' σ', Ext μ F μ' F' → Rp K μ' F' H' g → Re K μ' F' σ' ρ → D.nx σ' H'
  | .rt s g => ∀ μ' F' H' v, Ext μ F μ' F' → Rp K μ' F' H' g → Sn K μ' F' v s → D.rt v H'
  | .bk ρ g => ∀ μ' F' H' σ', Ext μ F μ' F' → Rp K μ' F' H' g → Re K μ' F' σ' ρ → D.bk σ' H'
  | .ct ρ g => ∀ μ' F' H' σ', Ext μ F μ' F' → Rp K μ' F' H' g → Re K μ' F' σ' ρ → D.ct σ' H'
  | .exc C fs ρ g => ∀ μ' F' H' σ' d, Ext μ F μ' F' → Rp K μ' F' H' g → Re K μ' F' σ' ρ → Xd K F' d fs → W (.ref C) d σ' H'
  | .bad => False
theorem PostS.ext {K : PySem.W.Frag} {μ μ1 : Mp} {F F1 : Hp} {W : WX} {D : Ends} {o : O} (e : Ext μ F μ1 F1) (h : PostS K μ F W D o) : PostS K μ1 F1 W D o := by
  cases o with
  | nx ρ g => exact fun μ' F' H' σ' x => h μ' F' H' σ' (e.trans x)
  | rt s g => exact fun μ' F' H' σ' x => h μ' F' H' σ' (e.trans x)
  | bk ρ g => exact fun μ' F' H' σ' x => h μ' F' H' σ' (e.trans x)
  | ct ρ g => exact fun μ' F' H' σ' x => h μ' F' H' σ' (e.trans x)
  | exc C fs ρ g => exact fun μ' F' H' σ' d x => h μ' F' H' σ' d (e.trans x)
  | bad => exact h
theorem PostS.nx {K : PySem.W.Frag} {μ : Mp} {F H : Hp} {W : WX} {D : Ends} {ρ : Env} {g : G} {σ : St} (h : PostS K μ F W D (.nx ρ g)) (r : Rp K μ F H g) (e : Re K μ F σ ρ) : D.nx σ H := h μ F H σ (.refl _ _) r e
def tS (K : PySem.W.Frag) (W : WX) (f : DS) : TS := fun D σ H => ∃ μ F g ρ, Rp K μ F H g ∧ Re K μ F σ ρ ∧ PostS K μ F W D (f ρ g)
def SD (X : Cx) (W : WX) (st : Stmt) (f : DS) : Prop := PS X st (tS X.K W f)
def SDs (X : Cx) (W : WX) (sts : List Stmt) (f : DS) : Prop := PSs X sts (tS X.K W f)
/-- behind an expression of a statement -/
def MidS {α β : Type} (rel : Mp → Hp → β → α → Prop) (K : PySem.W.Frag) (W : WX) (σ : St) (ρ : Env) (k : α → G → O) (D : Ends) (v : β) (H : Hp) : Prop :=
  ∃ μ F a g, Rp K μ F H g ∧ Re K μ F σ ρ ∧ rel μ F v a ∧ PostS K μ F W D (k a g)
theorem postO {α β : Type} {rel : Mp → Hp → β → α → Prop} {K : PySem.W.Frag} {μ : Mp} {F : Hp} {W : WX} {σ : St} {ρ : Env} {r : R α} {k : α → G → O} {D : Ends} (e : Re K μ F σ ρ) (h : PostS K μ F W D (r.toO ρ k)) :
    Post rel K μ F (XW W σ) r (MidS rel K W σ ρ k D) := by
  cases r with
  | ok a g => exact fun μ' F' H' v x y z => ⟨μ', F', a, g, y, e.mono x, z, PostS.ext x h⟩
  | exc C fs g => exact fun μ' F' H' d x y z => h μ' F' H' σ d x y (e.mono x) z
  | bad => exact h
theorem tD.stepS {K : PySem.W.Frag} {W : WX} {σ : St} {ρ : Env} {f : DE S} {k : S → G → O} {D : Ends} {μ : Mp} {F H : Hp} {g : G} (r : Rp K μ F H g) (e : Re K μ F σ ρ) (h : PostS K μ F W D ((f ρ g).toO ρ k)) : tD K W f σ H (MidS (relS K) K W σ ρ k D) :=
  ⟨μ, F, g, ρ, r, e, postO e h⟩
theorem tDB.stepS {K : PySem.W.Frag} {W : WX} {σ : St} {ρ : Env} {f : DE Bool} {k : Bool → G → O} {D : Ends} {μ : Mp} {F H : Hp} {g : G} (r : Rp K μ F H g) (e : Re K μ F σ ρ) (h : PostS K μ F W D ((f ρ g).toO ρ k)) : tDB K W f σ H (MidS relB K W σ ρ k D) :=
  ⟨μ, F, g, ρ, r, e, postO e h⟩
section
variable {X : Cx} {W : WX} {e c : Expr} {pos : Pos} {st : Stmt} {rest : List Stmt} {f : DE S} {t : DE Bool} {k1 k2 : DS}
@[simp] def nextS : DS := fun ρ g => .nx ρ g
@[simp] def seqS (k1 k2 : DS) : DS := fun ρ g => (k1 ρ g).thn k2
theorem sds_nil : SDs X W [] nextS := pss_weak pss_nil fun D σ H ⟨μ, F, g, ρ, r, re, q⟩ => q.nx r re
theorem thn_post {K : PySem.W.Frag} {μ : Mp} {F : Hp} {D : Ends} {o : O} {k : DS} (h : PostS K μ F W D (o.thn k)) : PostS K μ F W { D with nx := tS K W k D } o := by
  cases o with
  | nx ρ g => exact fun μ' F' H' σ' x y z => ⟨μ', F', g, ρ, y, z, PostS.ext x h⟩
  | rt s g => exact h
  | bk ρ g => exact h
  | ct ρ g => exact h
  | exc C fs ρ g => exact h
  | bad => exact h
theorem sds_cons (h1 : SD X W st k1) (h2 : SDs X W rest k2) : SDs X W (st :: rest) (seqS k1 k2) :=
  pss_weak (pss_cons h1 h2) fun D σ H ⟨μ, F, g, ρ, r, re, q⟩ => ⟨μ, F, g, ρ, r, re, thn_post q⟩
theorem sds_one (h1 : SD X W st k1) : SDs X W [st] k1 := pss_one h1
theorem sd_pass : SD X W (.Pass pos) nextS := ps_weak ps_pass fun D σ H ⟨μ, F, g, ρ, r, re, q⟩ => q.nx r re
def breakS : DS := fun ρ g => .bk ρ g
def contS : DS := fun ρ g => .ct ρ g
theorem sd_break : SD X W (.Break pos) breakS := ps_weak ps_break fun D σ H ⟨μ, F, g, ρ, r, re, q⟩ => q μ F H σ (.refl _ _) r re
theorem sd_continue : SD X W (.Continue pos) contS := ps_weak ps_continue fun D σ H ⟨μ, F, g, ρ, r, re, q⟩ => q μ F H σ (.refl _ _) r re
/-- the slot i's cell is frozen, its content data from here on -/
def frzS (i : Nat) : DS := fun ρ g => match ρ[i]? with
  | some (some (.c n)) => match snapC g[n]? with
    | some x => .nx (ρ.set i (some (.d x))) (g.set n .dead)
    | none => .bad
  | some (some (.d _)) => .nx ρ g
  | _ => .bad
theorem Re.set2 {K : PySem.W.Frag} {μ : Mp} {F : Hp} {v : V} {s : S} (h : Sn K μ F v s) {σ : St} {ρ : Env} (i : Nat) (e : Re K μ F σ ρ) (hv : σ[i]? = some (some v)) : Re K μ F σ (ρ.set i (some s)) := by
  have q := Re.set h i e
  have z : σ.set i (some v) = σ := by
    apply List.ext_getElem?
    intro j
    by_cases hj : j = i
    · subst hj
      rw [List.getElem?_set_self (List.getElem?_eq_some_iff.mp hv).1, hv]
    · rw [List.getElem?_set_ne (Ne.symm hj)]
  rw [z] at q
  exact q
theorem sds_frz (i : Nat) (h : SDs X W rest k2) : SDs X W rest (seqS (frzS i) k2) := pss_weak h fun D σ H ⟨μ, F, g, ρ, r, re, q⟩ => by
  have q' : PostS X.K μ F W D ((frzS i ρ g).thn k2) := q
  unfold frzS at q'
  split at q'
  · rename_i n hn
    split at q'
    · rename_i x hx
      obtain ⟨v, hv, sv⟩ := re.get hn
      obtain ⟨F', x', r', d'⟩ := snapC_frz r sv hx
      refine ⟨μ, F', _, _, r', ?_, PostS.ext x' q'⟩
      exact Re.set2 (.d d') i (re.mono x') hv
    · exact q'.elim
  · exact ⟨μ, F, g, ρ, r, re, q'⟩
  · exact q'.elim
/-! ### assignments -/
@[simp] def asgS (i : Nat) (f : DE S) : DS := fun ρ g => (f ρ g).toO ρ fun s g1 => .nx (ρ.set i (some s)) g1
theorem sd_asg {tg : Expr} {i : Nat} (hg : PG X tg (gName i)) (h : ED X W e f) (hs : swapsWithSole [tg] e pos.line X.env = pure false := by rfl) (hw : swappedStores [tg] e X.env = pure none := by rfl) (h1 : (assignEach [tg] X.env).map (·.2) = [assign tg X.env] := by rfl) : SD X W (.Assign [tg] e pos) (asgS i f) :=
  ps_weak (ps_asg h hg hs hw h1) fun D σ H ⟨μ, F, g, ρ, r, re, q⟩ => by
    obtain ⟨μ0, F0, g0, ρ0, r0, re0, p0⟩ := tD.stepS r re q
    refine ⟨μ0, F0, g0, ρ0, r0, re0, p0.imp fun x H1 ⟨μ1, F1, a1, g1, r1, re1, s1, p1⟩ => ?_⟩
    exact p1 μ1 F1 H1 _ (.refl _ _) r1 (Re.set s1 i re1)
/-- a target: what it makes of the slots; js: the slots that it may change -/
abbrev DG := S → Env → Option Env
def Only (js : List Nat) (σ σ' : St) : Prop := σ'.length = σ.length ∧ ∀ j, j ∉ js → σ'[j]? = σ[j]?
theorem Only.refl (js : List Nat) (σ : St) : Only js σ σ := ⟨rfl, fun _ _ => rfl⟩
theorem Only.trans {js ks ls : List Nat} {σ σ1 σ2 : St} (a : Only js σ σ1) (b : Only ks σ1 σ2) (h1 : ∀ j ∈ js, j ∈ ls) (h2 : ∀ j ∈ ks, j ∈ ls) : Only ls σ σ2 := ⟨b.1.trans a.1, fun j hj => (b.2 j fun z => hj (h2 j z)).trans (a.2 j fun z => hj (h1 j z))⟩
theorem Only.set (σ : St) (i : Nat) (v : Option V) : Only [i] σ (σ.set i v) := ⟨List.length_set, fun j hj => List.getElem?_set_ne (by simp at hj; exact Ne.symm hj)⟩
def tG (K : PySem.W.Frag) (js : List Nat) (h : DG) : TG := fun v σ H Q => ∃ μ F g ρ s ρ', Rp K μ F H g ∧ Re K μ F σ ρ ∧ Sn K μ F v s ∧ h s ρ = some ρ' ∧ ∀ σ', Re K μ F σ' ρ' → Only js σ σ' → Q σ' H
def GD (X : Cx) (tg : Expr) (js : List Nat) (h : DG) : Prop := PG X tg (tG X.K js h)
abbrev DGs := List D → Env → Option Env
def tGs (K : PySem.W.Frag) (js : List Nat) (h : DGs) : TGs := fun vs σ H Q => ∃ μ F g ρ ds ρ', Rp K μ F H g ∧ Re K μ F σ ρ ∧ DnL K F vs ds ∧ h ds ρ = some ρ' ∧ ∀ σ', Re K μ F σ' ρ' → Only js σ σ' → Q σ' H
def GDs (X : Cx) (tgs : List Expr) (js : List Nat) (h : DGs) : Prop := PGs X tgs (tGs X.K js h)
theorem pg_weak {X : Cx} {e : Expr} {t t' : TG} (h : PG X e t) (k : ∀ v σ H Q, t' v σ H Q → t v σ H Q) : PG X e t' := ⟨fun pins s σ H v u Q I r q => h.run pins s σ H v u Q I r (k v σ H Q q)⟩
theorem pgs_weak {X : Cx} {e : List Expr} {t t' : TGs} (h : PGs X e t) (k : ∀ v σ H Q, t' v σ H Q → t v σ H Q) : PGs X e t' := ⟨fun pins s σ H v u Q I r q => h.run pins s σ H v u Q I r (k v σ H Q q)⟩
@[simp] def nameG (i : Nat) : DG := fun s ρ => some (ρ.set i (some s))
theorem gd_name {tg : Expr} {i : Nat} (hg : PG X tg (gName i)) : GD X tg [i] (nameG i) := pg_weak hg fun v σ H Q ⟨μ, F, g, ρ, s, ρ', r, re, sv, h, q⟩ => by
  have h' : ρ.set i (some s) = ρ' := Option.some.inj h
  subst h'
  exact q _ (Re.set sv i re) (Only.set σ i _)
@[simp] def nilG : DGs := fun ds ρ => match ds with
  | [] => some ρ
  | _ => none
@[simp] def consG (h : DG) (hs : DGs) : DGs := fun ds ρ => match ds with
  | d :: r => (h (.d d) ρ).bind fun ρ1 => hs r ρ1
  | [] => none
theorem gds_nil : GDs X [] [] nilG := pgs_weak pgs_nil fun v σ H Q ⟨μ, F, g, ρ, ds, ρ', r, re, sv, h, q⟩ => by
  cases sv with
  | nil => cases h; exact ⟨rfl, q _ re (Only.refl _ _)⟩
  | cons => cases h
theorem gds_cons {tg : Expr} {tgs : List Expr} {js ks : List Nat} {hd : DG} {hs : DGs} (h1 : GD X tg js hd) (h2 : GDs X tgs ks hs) (hh : (assignEach (tg :: tgs) X.env).map (·.2) = assign tg X.env :: (assignEach tgs X.env).map (·.2) := by rfl) : GDs X (tg :: tgs) (js ++ ks) (consG hd hs) :=
  pgs_weak (pgs_cons h1 h2 hh) fun v σ H Q ⟨μ, F, g, ρ, ds, ρ', r, re, sv, h, q⟩ => by
    cases sv with
    | nil => cases h
    | @cons v vs d ds hv hvs =>
      unfold consG at h
      simp only at h
      cases e : hd (.d d) ρ with
      | none => rw [e] at h; cases h
      | some ρ1 =>
        rw [e] at h
        refine ⟨_, _, rfl, μ, F, g, ρ, .d d, ρ1, r, re, .d hv, e, fun σ1 re1 o1 => ?_⟩
        exact ⟨μ, F, g, ρ1, ds, ρ', r, re1, hvs, h, fun σ2 re2 o2 => q σ2 re2 (o1.trans o2 (fun j z => List.mem_append_left _ z) fun j z => List.mem_append_right _ z)⟩
@[simp] def tupG (n : Nat) (hs : DGs) : DG := fun s ρ => match s with
  | .d (.tup ds) => if ds.length = n then hs ds ρ else none
  | _ => none
theorem gd_tup {es : List Expr} {k n : Nat} {js : List Nat} {hs : DGs} (hc : X.calm = true) (h : GDs X es js hs) (hn : (assignEach es X.env).length = n := by rfl) (hst : (assignEach es X.env).findIdx? (·.1) = none := by rfl) : GD X (.Tuple es k pos) js (tupG n hs) :=
  pg_weak (pg_tup hc h hn hst) fun v σ H Q ⟨μ, F, g, ρ, s, ρ', r, re, sv, h, q⟩ => by
    unfold tupG at h
    split at h
    · rename_i ds
      by_cases hl : ds.length = n
      · rw [if_pos hl] at h
        cases sv with
        | d sv =>
          cases sv with
          | tup hq hd => exact ⟨_, _, rfl, ex_t r.ex hq, by rw [hd.length]; exact hl, μ, F, g, ρ, ds, ρ', r, re, hd, h, q⟩
      · rw [if_neg hl] at h; cases h
    · cases h
@[simp] def setS (h : DG) (f : DE S) : DS := fun ρ g => (f ρ g).toO ρ fun s g1 => match h s ρ with
  | some ρ' => .nx ρ' g1
  | none => .bad
theorem sd_set {tg : Expr} {js : List Nat} {h : DG} (hg : GD X tg js h) (he : ED X W e f) (hs : swapsWithSole [tg] e pos.line X.env = pure false := by rfl) (hw : swappedStores [tg] e X.env = pure none := by rfl) (h1 : (assignEach [tg] X.env).map (·.2) = [assign tg X.env] := by rfl) : SD X W (.Assign [tg] e pos) (setS h f) :=
  ps_weak (ps_asg he hg hs hw h1) fun D σ H ⟨μ, F, g, ρ, r, re, q⟩ => by
    obtain ⟨μ0, F0, g0, ρ0, r0, re0, p0⟩ := tD.stepS r re q
    refine ⟨μ0, F0, g0, ρ0, r0, re0, p0.imp fun x H1 ⟨μ1, F1, a1, g1, r1, re1, s1, p1⟩ => ?_⟩
    cases e1 : h a1 ρ with
    | none => simp only [e1] at p1; exact p1.elim
    | some ρ' =>
      simp only [e1] at p1
      exact ⟨μ1, F1, g1, ρ, a1, ρ', r1, re1, s1, e1, fun σ' re' _ => p1 μ1 F1 H1 σ' (.refl _ _) r1 re'⟩
/-- x = e1, y = e2 .. (two names, both sides written): see sd_par -/
@[simp] def exprS (f : DE S) : DS := fun ρ g => (f ρ g).toO ρ fun _ g1 => .nx ρ g1
theorem sd_expr (h : ED X W e f) (hs : swapsWith e none pos.line X.env = pure false := by rfl) : SD X W (.Expr e pos) (exprS f) :=
  ps_weak (ps_expr h hs) fun D σ H ⟨μ, F, g, ρ, r, re, q⟩ => by
    obtain ⟨μ0, F0, g0, ρ0, r0, re0, p0⟩ := tD.stepS r re q
    exact ⟨μ0, F0, g0, ρ0, r0, re0, p0.imp fun x H1 ⟨μ1, F1, a1, g1, r1, re1, s1, p1⟩ => p1 μ1 F1 H1 _ (.refl _ _) r1 re1⟩
@[simp] def retS (f : DE S) : DS := fun ρ g => (f ρ g).toO ρ fun s g1 => .rt s g1
theorem sd_ret (h : ED X W e f) : SD X W (.Return (some e) pos) (retS f) :=
  ps_weak (ps_ret h) fun D σ H ⟨μ, F, g, ρ, r, re, q⟩ => by
    obtain ⟨μ0, F0, g0, ρ0, r0, re0, p0⟩ := tD.stepS r re q
    exact ⟨μ0, F0, g0, ρ0, r0, re0, p0.imp fun x H1 ⟨μ1, F1, a1, g1, r1, re1, s1, p1⟩ => p1 μ1 F1 H1 _ (.refl _ _) r1 s1⟩
@[simp] def retNS : DS := fun _ g => .rt (.d .non) g
theorem sd_retN : SD X W (.Return none pos) retNS := ps_weak ps_retN fun D σ H ⟨μ, F, g, ρ, r, re, q⟩ => q μ F H _ (.refl _ _) r (.d .non)
@[simp] def ifS (t : DE Bool) (k1 k2 : DS) : DS := fun ρ g => (t ρ g).toO ρ fun b g1 => if b then k1 ρ g1 else k2 ρ g1
theorem sd_if {a b : List Stmt} (hc : TD X W c t) (ha : SDs X W a k1) (hb : SDs X W b k2) : SD X W (.If c a b pos) (ifS t k1 k2) :=
  ps_weak (ps_if hc ha hb) fun D σ H ⟨μ, F, g, ρ, r, re, q⟩ => by
    obtain ⟨μ0, F0, g0, ρ0, r0, re0, p0⟩ := tDB.stepS r re q
    refine ⟨μ0, F0, g0, ρ0, r0, re0, p0.imp fun x H1 ⟨μ1, F1, a1, g1, r1, re1, s1, p1⟩ => ?_⟩
    cases s1
    cases x with
    | true => exact ⟨μ1, F1, g1, ρ, r1, re1, p1⟩
    | false => exact ⟨μ1, F1, g1, ρ, r1, re1, p1⟩
/-! ### walked things -/
/-- the iterator J hands out ds, whatever comes to the frozen heap F0 -/
structure WalkD (K : PySem.W.Frag) (F0 : Hp) (J : It) (ds : List D) : Prop where
  go : ∀ (i : Nat) H, Ex F0 H → i < ds.length → J.go i H
  stop : ∀ (i : Nat) H, Ex F0 H → ds.length = i → J.stop i H
  yld : ∀ (i : Nat) H x H' d μ F g, Ex F0 F → Rp K μ F H g → J.yld i H x H' → ds[i]? = some d → ∃ F', Ext μ F μ F' ∧ Rp K μ F' H' g ∧ Dn K F' x d
theorem WalkD.mono {K : PySem.W.Frag} {F0 F1 : Hp} {J : It} {ds : List D} (e : Ex F0 F1) (w : WalkD K F0 J ds) : WalkD K F1 J ds :=
  ⟨fun i H x => w.go i H (ex_trans e x), fun i H x => w.stop i H (ex_trans e x), fun i H x H' d μ F g y => w.yld i H x H' d μ F g (ex_trans e y)⟩
abbrev relI (K : PySem.W.Frag) : Mp → Hp → It → List D → Prop := fun _ F J ds => WalkD K F J ds
def tI (K : PySem.W.Frag) (W : WX) (f : DE (List D)) : TI := fun σ H R => ∃ μ F g ρ, Rp K μ F H g ∧ Re K μ F σ ρ ∧ Post (relI K) K μ F (XW W σ) (f ρ g) R
def ID (X : Cx) (W : WX) (tg iter : Expr) (f : DE (List D)) : Prop := PI X tg iter (tI X.K W f)
theorem pi_weak {X : Cx} {tg e : Expr} {t t' : TI} (h : PI X tg e t) (k : ∀ σ H Q, t' σ H Q → t σ H Q) : PI X tg e t' := ⟨fun pins s σ H Q I q => h.run pins s σ H Q I (k σ H Q q)⟩
/-- a list or a tuple -/
def iSeq (K : PySem.W.Frag) (tl : TE) : TI := fun σ H R => tl σ H fun x H1 => ∃ a xs, x = .ref a ∧ ((SqL K H1 a xs ∧ R (Itl K a) H1) ∨ (SqT K H1 a xs ∧ R (Itt K a) H1))
theorem pi_seq {tg l : Expr} {tl : TE} (hl : PE X l tl) : PI X tg l (iSeq X.K tl) := by
  refine ⟨fun pins s σ H R I h => ?_⟩
  refine thn (hl.run pins s σ H _ I h) fun v s1 ⟨x, H1, I1, r1, q1⟩ => ?_
  obtain ⟨a, xs, e, q⟩ := q1
  subst e
  cases r1
  rcases q with ⟨hq, q⟩ | ⟨hq, q⟩
  · obtain ⟨its, rv, p, hz⟩ := I1.list hq
    refine wpAny_pyIter_list p.isList ?_
    refine ⟨s1.heap.objs.size, [s1.heap.objs.size], _, _, H1, rfl, I1.kept (t' := s1.toks) fun b o e => Heap.get?_push_of_some _ e, turn_list a _, ⟨_, Heap.get?_push_size _ rfl, rfl, rfl⟩, fun b hb => ?_, q⟩
    have e : b = s1.heap.objs.size := by simpa using hb
    subst e
    exact I1.fpOk (Nat.le_refl _) (I1.hok.fresh (Nat.le_refl _))
  · obtain ⟨its, rv, p, hz⟩ := I1.tuple hq
    refine wpAny_pyIter_tuple (show s1.heap.IsTuple a its.toArray from p) ?_
    refine ⟨s1.heap.objs.size, [s1.heap.objs.size], _, _, H1, rfl, I1.kept (t' := s1.toks) fun b o e => Heap.get?_push_of_some _ e, turn_tuple a _, ⟨_, Heap.get?_push_size _ rfl, rfl, rfl⟩, fun b hb => ?_, q⟩
    have e : b = s1.heap.objs.size := by simpa using hb
    subst e
    exact I1.fpOk (Nat.le_refl _) (I1.hok.fresh (Nat.le_refl _))
theorem walk_l {K : PySem.W.Frag} {F : Hp} {a : Addr} {xs : List V} {ds : List D} (hq : SqL K F a xs) (hd : DnL K F xs ds) : WalkD K F (Itl K a) ds where
  go := fun i H e hi => ⟨xs, xs[i]'(by rw [hd.length]; exact hi), ex_l e hq, List.getElem?_eq_getElem _⟩
  stop := fun i H e hi => ⟨xs, ex_l e hq, by rw [hd.length]; exact Nat.le_of_eq hi⟩
  yld := fun i H x H' d μ F1 g e r y hi => by
    obtain ⟨rfl, y⟩ := y
    obtain ⟨v, h1, h2⟩ := hd.get hi
    have h3 := y xs (ex_l (ex_trans e r.ex) hq)
    rw [h1] at h3; cases h3
    exact ⟨F1, .refl _ _, r, h2.mono e⟩
theorem walk_t {K : PySem.W.Frag} {F : Hp} {a : Addr} {xs : List V} {ds : List D} (hq : SqT K F a xs) (hd : DnL K F xs ds) : WalkD K F (Itt K a) ds where
  go := fun i H e hi => ⟨xs, xs[i]'(by rw [hd.length]; exact hi), ex_t e hq, List.getElem?_eq_getElem _⟩
  stop := fun i H e hi => ⟨xs, ex_t e hq, by rw [hd.length]; exact Nat.le_of_eq hi⟩
  yld := fun i H x H' d μ F1 g e r y hi => by
    obtain ⟨rfl, y⟩ := y
    obtain ⟨v, h1, h2⟩ := hd.get hi
    have h3 := y xs (ex_t (ex_trans e r.ex) hq)
    rw [h1] at h3; cases h3
    exact ⟨F1, .refl _ _, r, h2.mono e⟩
/-- the items of a list, a tuple, the script -/
@[simp] def itemsD : D → Option (List D)
  | .lst ds => some ds
  | .tup ds => some ds
  | .scr ns => some (ns.map D.int)
  | _ => none
@[simp] def seqI (f : DE S) : DE (List D) := fun ρ g => (f ρ g).bind fun s g1 => match s with
  | .d x => match itemsD x with
    | some ds => .ok ds g1
    | none => .bad
  | _ => .bad
theorem id_seq {tg : Expr} (h : ED X W e f) : ID X W tg e (seqI f) := pi_weak (pi_seq h) fun σ H R ⟨μ, F, g, ρ, r, re, q⟩ => by
  obtain ⟨μ0, F0, g0, ρ0, r0, re0, p0⟩ := tD.step r re q
  refine ⟨μ0, F0, g0, ρ0, r0, re0, p0.imp fun x H1 ⟨μ1, F1, a1, g1, r1, re1, s1, p1⟩ => ?_⟩
  cases a1 with
  | c n => exact p1.elim
  | i n => exact p1.elim
  | d d =>
    cases d <;> first | exact False.elim p1 | skip
    · cases s1 with
      | d s1 =>
        cases s1 with
        | tup hq hd => exact ⟨_, _, rfl, .inr ⟨ex_t r1.ex hq, p1 μ1 F1 H1 _ (.refl _ _) r1 (walk_t hq hd)⟩⟩
    · cases s1 with
      | d s1 =>
        cases s1 with
        | lst hq hd => exact ⟨_, _, rfl, .inl ⟨SqL.of (r1.ex _ _ hq), p1 μ1 F1 H1 _ (.refl _ _) r1 (walk_l (SqL.of hq) hd)⟩⟩
    · cases s1 with
      | d s1 =>
        cases s1 with
        | scr hq => exact ⟨_, _, rfl, .inl ⟨ex_l r1.ex hq, p1 μ1 F1 H1 _ (.refl _ _) r1 (walk_l hq (DnL.ints _))⟩⟩
/-- range(lo, hi) -/
def rangeL (lo hi : Int) : List D := (List.range (hi - lo).toNat).map fun i => D.int (lo + (i : Nat))
theorem walk_r {K : PySem.W.Frag} {F : Hp} (lo : Int) (n : Nat) : WalkD K F (Itr lo n) ((List.range n).map fun i => D.int (lo + (i : Nat))) where
  go := fun i H e hi => by
    have h : i < n := by simpa using hi
    exact h
  stop := fun i H e hi => by
    have h : n = i := by simpa using hi
    exact Nat.le_of_eq h
  yld := fun i H x H' d μ F1 g e r y hi => by
    obtain ⟨rfl, rfl⟩ := y
    have hi' : i < n := by
      have := (List.getElem?_eq_some_iff.mp hi).1
      simpa using this
    rw [List.getElem?_map, List.getElem?_range hi'] at hi
    cases hi
    exact ⟨F1, .refl _ _, r, .int _⟩
/-- what a range or a place may be; the test stands still for the kernel -/
noncomputable def inR (i : Int) : Bool := @decide (-(2 ^ 62) ≤ i ∧ i < 2 ^ 62) (Classical.propDecidable _)
theorem inR_iff {i : Int} : inR i = true ↔ -(2 ^ 62) ≤ i ∧ i < 2 ^ 62 := by
  unfold inR
  exact @decide_eq_true_iff _ (Classical.propDecidable _)
noncomputable def range1 (fl : DE (List S)) : DE (List D) := fun ρ g => (fl ρ g).bind fun xs g1 => match xs with
  | [.d (.int j)] => if inR j then .ok (rangeL 0 j) g1 else .bad
  | _ => .bad
noncomputable def range2 (fl : DE (List S)) : DE (List D) := fun ρ g => (fl ρ g).bind fun xs g1 => match xs with
  | [.d (.int i), .d (.int j)] => if inR i && inR j then .ok (rangeL i j) g1 else .bad
  | _ => .bad
theorem range0_eq (j : Int) : rangeL 0 j = (List.range j.toNat).map fun i => D.int (0 + (i : Nat)) := by unfold rangeL; rw [Int.sub_zero]
variable {fl : DE (List S)}
theorem id_range1 {tg a : Expr} {p : Pos} (hg : Gl X "range") (hm : X.mg "range" = none) (ha : LD X W [a] fl) (hs : starEach [a] X.env = [(false, eval a X.env)] := by rfl) : ID X W tg (.Call (.Name "range" p) [a] [] pos) (range1 fl) :=
  pi_weak (pi_range1 hg hm ha hs) fun σ H R ⟨μ, F, g, ρ, r, re, q⟩ => by
    obtain ⟨μ0, F0, g0, ρ0, r0, re0, p0⟩ := tDL.step r re q
    refine ⟨μ0, F0, g0, ρ0, r0, re0, p0.imp fun x H1 ⟨μ1, F1, a1, g1, r1, re1, s1, p1⟩ => ?_⟩
    dsimp only at p1
    split at p1
    · rename_i j
      by_cases hj : inR j = true
      · rw [if_pos hj] at p1
        cases s1 with
        | cons h1 t =>
          cases t
          cases h1 with
          | d h1 =>
            cases h1
            obtain ⟨b1, b2⟩ := inR_iff.mp hj
            refine ⟨j, rfl, b1, b2, p1 μ1 F1 H1 _ (.refl _ _) r1 ?_⟩
            rw [range0_eq]; exact walk_r 0 j.toNat
      · rw [if_neg hj] at p1; exact p1.elim
    · exact p1.elim
theorem id_range2 {tg a b : Expr} {p : Pos} (hg : Gl X "range") (hm : X.mg "range" = none) (ha : LD X W [a, b] fl) (hs : starEach [a, b] X.env = [(false, eval a X.env), (false, eval b X.env)] := by rfl) (hs2 : starEach [b] X.env = [(false, eval b X.env)] := by rfl) : ID X W tg (.Call (.Name "range" p) [a, b] [] pos) (range2 fl) :=
  pi_weak (pi_range2 hg hm ha hs hs2) fun σ H R ⟨μ, F, g, ρ, r, re, q⟩ => by
    obtain ⟨μ0, F0, g0, ρ0, r0, re0, p0⟩ := tDL.step r re q
    refine ⟨μ0, F0, g0, ρ0, r0, re0, p0.imp fun x H1 ⟨μ1, F1, a1, g1, r1, re1, s1, p1⟩ => ?_⟩
    dsimp only at p1
    split at p1
    · rename_i i j
      by_cases hj : (inR i && inR j) = true
      · rw [if_pos hj] at p1
        cases s1 with
        | cons h1 t =>
          cases t with
          | cons h2 t =>
            cases t
            cases h1 with
            | d h1 =>
              cases h1
              cases h2 with
              | d h2 =>
                cases h2
                obtain ⟨hi, hj⟩ := Bool.and_eq_true_iff.mp hj
                obtain ⟨b1, b2⟩ := inR_iff.mp hi
                obtain ⟨b3, b4⟩ := inR_iff.mp hj
                exact ⟨i, j, rfl, ⟨b1, b2, b3, b4⟩, p1 μ1 F1 H1 _ (.refl _ _) r1 (walk_r i (j - i).toNat)⟩
      · rw [if_neg hj] at p1; exact p1.elim
    · exact p1.elim
/-! ### for, while -/
def loopS (h : DG) (body : DS) : List D → DS
  | [], ρ, g => .nx ρ g
  | d :: ds, ρ, g => match h (.d d) ρ with
    | none => .bad
    | some ρ1 => match body ρ1 g with
      | .nx ρ2 g2 => loopS h body ds ρ2 g2
      | .ct ρ2 g2 => loopS h body ds ρ2 g2
      | .bk ρ2 g2 => .nx ρ2 g2
      | .rt s g2 => .rt s g2
      | .exc C fs ρ2 g2 => .exc C fs ρ2 g2
      | .bad => .bad
def forS (it : DE (List D)) (h : DG) (body : DS) : DS := fun ρ g => (it ρ g).toO ρ fun ds g1 => loopS h body ds ρ g1
theorem sd_for {tg iter : Expr} {body : List Stmt} {it : DE (List D)} {js : List Nat} {h : DG} (hp : PassesOwn (model X.prog X.w) X.A X.env X.xe) (hc : X.calm = true) (hi : ID X W tg iter it) (hg : GD X tg js h) (hb : SDs X W body k1)
    (hs : ∀ x, foldedSetIterable iter X.env x = pure x := by intro _; rfl) : SD X W (.For tg iter body [] pos) (forS it h k1) :=
  ps_weak (ps_for hp hc hi hg hb hs) fun D σ H ⟨μ, F, g, ρ, r, re, q⟩ => by
    refine ⟨μ, F, g, ρ, r, re, (postO (rel := relI X.K) re q).imp fun J H1 ⟨μ1, F1, ds, g1, r1, re1, w1, p1⟩ => ?_⟩
    refine ⟨fun i m σ H => m = ds.length - i ∧ i ≤ ds.length ∧ ∃ μ F g ρ, Ext μ1 F1 μ F ∧ Rp X.K μ F H g ∧ Re X.K μ F σ ρ ∧ PostS X.K μ F W D (loopS h k1 (ds.drop i) ρ g), ⟨ds.length, by simp, Nat.zero_le _, μ1, F1, g1, ρ, .refl _ _, r1, re1, by simpa using p1⟩, ?_⟩
    rintro i m σ H ⟨rfl, hi, μ, F, g, ρ, x, r, re, q⟩
    by_cases hl : i < ds.length
    · refine .inr ⟨w1.go i H (ex_trans x.f r.ex) hl, _, fun σ' H' n => ⟨_, ?_, rfl, hl, n⟩, fun y H' hy => ?_⟩
      · omega
      · have hd : ds[i]? = some ds[i] := List.getElem?_eq_getElem hl
        obtain ⟨F', x', r', d'⟩ := w1.yld i H y H' _ μ F g x.f r hy hd
        rw [List.drop_eq_getElem_cons hl] at q
        unfold loopS at q
        cases e1 : h (.d ds[i]) ρ with
        | none => simp only [e1] at q; exact q.elim
        | some ρ1 =>
          simp only [e1] at q
          refine ⟨μ, F', g, ρ, .d ds[i], ρ1, r', re.mono x', .d d', e1, fun σ2 re2 _ => ?_⟩
          refine ⟨μ, F', g, ρ1, r', re2, ?_⟩
          cases e2 : k1 ρ1 g with
          | nx ρ2 g2 =>
            rw [e2] at q
            exact fun μ3 F3 H3 σ3 x3 r3 re3 => ⟨μ3, F3, g2, ρ2, (x.trans x').trans x3, r3, re3, PostS.ext (x'.trans x3) q⟩
          | ct ρ2 g2 =>
            rw [e2] at q
            exact fun μ3 F3 H3 σ3 x3 r3 re3 => ⟨μ3, F3, g2, ρ2, (x.trans x').trans x3, r3, re3, PostS.ext (x'.trans x3) q⟩
          | bk ρ2 g2 =>
            rw [e2] at q
            exact fun μ3 F3 H3 σ3 x3 r3 re3 => q μ3 F3 H3 σ3 (x'.trans x3) r3 re3
          | rt s g2 =>
            rw [e2] at q
            exact fun μ3 F3 H3 σ3 x3 r3 re3 => q μ3 F3 H3 σ3 (x'.trans x3) r3 re3
          | exc C fs ρ2 g2 =>
            rw [e2] at q
            exact fun μ3 F3 H3 σ3 d x3 r3 re3 => q μ3 F3 H3 σ3 d (x'.trans x3) r3 re3
          | bad =>
            rw [e2] at q
            exact q.elim
    · have e : i = ds.length := by omega
      subst e
      rw [List.drop_length] at q
      exact .inl ⟨w1.stop _ H (ex_trans x.f r.ex) rfl, q.nx r re⟩
def whileN (t : DE Bool) (body : DS) : Nat → DS
  | 0, _, _ => .bad
  | n + 1, ρ, g => (t ρ g).toO ρ fun b g1 => if b then (match body ρ g1 with
      | .nx ρ2 g2 => whileN t body n ρ2 g2
      | .ct ρ2 g2 => whileN t body n ρ2 g2
      | .bk ρ2 g2 => .nx ρ2 g2
      | .rt s g2 => .rt s g2
      | .exc C fs ρ2 g2 => .exc C fs ρ2 g2
      | .bad => .bad) else .nx ρ g1
/-- a while, with as many turns as m allows -/
def whileS (m : Env → G → Nat) (t : DE Bool) (body : DS) : DS := fun ρ g => whileN t body (m ρ g) ρ g
theorem sd_while (m : Env → G → Nat) {body : List Stmt} (hp : PassesOwn (model X.prog X.w) X.A X.env X.xe) (hc : TD X W c t) (hb : SDs X W body k1) : SD X W (.While c body [] pos) (whileS m t k1) :=
  ps_weak (ps_while hp hc hb) fun D σ H ⟨μ, F, g, ρ, r, re, q⟩ => by
    refine ⟨fun n σ H => ∃ μ F g ρ, Rp X.K μ F H g ∧ Re X.K μ F σ ρ ∧ PostS X.K μ F W D (whileN t k1 n ρ g), ⟨m ρ g, μ, F, g, ρ, r, re, q⟩, ?_⟩
    rintro n σ H ⟨μ, F, g, ρ, r, re, q⟩
    cases n with
    | zero => exact q.elim
    | succ n =>
      obtain ⟨μ0, F0, g0, ρ0, r0, re0, p0⟩ := tDB.stepS r re q
      refine ⟨μ0, F0, g0, ρ0, r0, re0, p0.imp fun x H1 ⟨μ1, F1, a1, g1, r1, re1, s1, p1⟩ => ?_⟩
      cases s1
      cases x with
      | false => exact p1.nx r1 re1
      | true =>
        refine ⟨_, fun σ' H' z => ⟨n, Nat.lt_succ_self n, z⟩, μ1, F1, g1, ρ, r1, re1, ?_⟩
        dsimp only at p1
        rw [if_pos rfl] at p1
        cases e2 : k1 ρ g1 with
        | nx ρ2 g2 => rw [e2] at p1; exact fun μ3 F3 H3 σ3 x3 r3 re3 => ⟨μ3, F3, g2, ρ2, r3, re3, PostS.ext x3 p1⟩
        | ct ρ2 g2 => rw [e2] at p1; exact fun μ3 F3 H3 σ3 x3 r3 re3 => ⟨μ3, F3, g2, ρ2, r3, re3, PostS.ext x3 p1⟩
        | bk ρ2 g2 => rw [e2] at p1; exact p1
        | rt s g2 => rw [e2] at p1; exact p1
        | exc C fs ρ2 g2 => rw [e2] at p1; exact p1
        | bad => rw [e2] at p1; exact p1.elim
/-! ### defs -/
/-- a def's promise: it computes φ; its own cells go with it -/
def spD (K : PySem.W.Frag) (n : Nat) (φ : DF) : Sp := fun vs H Q E => ∃ μ F g ss, Rp K μ F H g ∧ SnL K μ F vs ss ∧ ss.length = n ∧ Post (relS K) K μ F E (φ ss g) Q
abbrev FnD (P : Program) (w : World) (K : PySem.W.Frag) (mg : Str → Option Value) (base : Heap) (k : Nat) (f : Addr) (fd : FuncData) (ps : List Str) (φ : DF) : Prop := FnOk P w K mg base (L2.CX P w) k f fd ps (spD K ps.length φ)
/-- what a body hands back: data; its own list, frozen; an elder cell -/
def finD (n : Nat) (s : S) (g : G) : R S := match s with
  | .d x => .ok (.d x) (g.take n)
  | .c m => if m < n then .ok (.c m) (g.take n) else (match snapC g[m]? with
    | some x => .ok (.d x) (g.take n)
    | none => .bad)
  | .i m => if m < n then .ok (.i m) (g.take n) else .bad
def defD (N : Nat) (body : DS) : DF := fun ss g => match body (ss.map some ++ List.replicate (N - ss.length) none) g with
  | .nx _ g' => .ok (.d .non) (g'.take g.length)
  | .rt s g' => finD g.length s g'
  | .exc C fs _ g' => .exc C fs (g'.take g.length)
  | _ => .bad
/-- .. that hands back a cell of its own -/
def defC (N : Nat) (body : DS) : DF := fun ss g => match body (ss.map some ++ List.replicate (N - ss.length) none) g with
  | .rt s g' => .ok s g'
  | _ => .bad
theorem Rp.cut {K : PySem.W.Frag} {μ : Mp} {F H : Hp} {g : G} (r : Rp K μ F H g) (n : Nat) : Rp K (μ.take n) F H (g.take n) := by
  have tk : ∀ {α : Type} {l : List α} {m : Nat} {x : α}, (l.take n)[m]? = some x → l[m]? = some x := fun {α l m x} h => by
    rw [List.getElem?_take] at h
    split at h
    · exact h
    · cases h
  exact ⟨r.ex, by simp [r.len], fun m fp c h1 h2 => r.ok m fp c (tk h1) (tk h2), fun m k fp fq c d a h1 h2 h3 h4 => r.dj m k fp fq c d a (tk h1) (tk h2) (tk h3) (tk h4)⟩
theorem Ext.cut {μ μ' : Mp} {F F' : Hp} (e : Ext μ F μ' F') : Ext μ F (μ'.take μ.length) F' := ⟨fun n a h => by
  have := (List.getElem?_eq_some_iff.mp h).1
  rw [List.getElem?_take, if_pos this]
  exact e.m n a h, e.f⟩
theorem Re.start {K : PySem.W.Frag} {μ : Mp} {F : Hp} (N : List Str) {vs : List V} {ss : List S} (h : SnL K μ F vs ss) : Re K μ F (start N vs) (ss.map some ++ List.replicate (N.length - ss.length) none) := by
  have rep : ∀ n : Nat, Re K μ F (List.replicate n none) (List.replicate n none) := fun n => by
    induction n with
    | zero => exact .nil
    | succ n ih => exact .cons trivial ih
  have app : ∀ {a : St} {b : Env} {c : St} {d : Env}, Re K μ F a b → Re K μ F c d → Re K μ F (a ++ c) (b ++ d) := fun {a b c d} h1 h2 => by
    induction h1 with
    | nil => exact h2
    | cons q _ ih => exact .cons q ih
  unfold L2.start
  rw [Paired.length h]
  refine app ?_ (rep _)
  induction h with
  | nil => exact .nil
  | cons q _ ih => exact .cons q ih
section
variable {P : Program} {w : World} {K : PySem.W.Frag} {mg : Str → Option Value} {base : Heap}
theorem snap_fin {μ μ' : Mp} {F F' H' : Hp} {g' : G} {s : S} {v : V} {Q : VK} {E : XK} (e : Ext μ F μ' F') (r : Rp K μ' F' H' g') (sv : Sn K μ' F' v s) (h : Post (relS K) K μ F E (finD μ.length s g') Q) : Q v H' := by
  cases s with
  | d x =>
    refine h (μ'.take μ.length) F' H' v e.cut (r.cut _) ?_
    cases sv with
    | d sv => exact .d sv
  | c m =>
    unfold finD at h
    dsimp only at h
    by_cases hm : m < μ.length
    · rw [if_pos hm] at h
      refine h (μ'.take μ.length) F' H' v e.cut (r.cut _) ?_
      cases sv with
      | @c _ a l sv => exact .c (l := l) (by rw [List.getElem?_take, if_pos hm]; exact sv)
    · rw [if_neg hm] at h
      cases e1 : snapC g'[m]? with
      | none => rw [e1] at h; exact h.elim
      | some x =>
        rw [e1] at h
        obtain ⟨F2, x2, r2, d2⟩ := snapC_frz r sv e1
        have r3 := r2.cut μ.length
        have z : (g'.set m .dead).take μ.length = g'.take μ.length := by
          rw [List.take_set]
          exact List.set_eq_of_length_le (by simp; omega)
        rw [z] at r3
        exact h (μ'.take μ.length) F2 H' v ((e.trans x2).cut) r3 (.d d2)
  | i m =>
    unfold finD at h
    dsimp only at h
    by_cases hm : m < μ.length
    · rw [if_pos hm] at h
      refine h (μ'.take μ.length) F' H' v e.cut (r.cut _) ?_
      cases sv with
      | @i _ a b l sv => exact .i (a := a) (l := l) (by rw [List.getElem?_take, if_pos hm]; exact sv)
    · rw [if_neg hm] at h; exact h.elim
/-- THE RULE for a def -/
theorem fn_d {x qual : Str} {st : Stmt} {f : Addr} {fd : FuncData} {N ps : List Str} {k : Nat} {body : DS} (F : Fun K x qual st f fd) (Sc : FnScope N ps (defScope st))
    (hbody : ∀ (cdv : Value) (A : Around) (outer : List PySem.Env) (s : Shared) (H : Hp) (E : XK), Room k (A.deeper (envOfC qual (defScope st) s.heap.objs.size f cdv)) →
      SDs (cxOf (L2.CX P w) P w K mg base N qual (defScope st) f cdv A outer s H E) (fun cls d _ H => E cls d H) (defBody st) body) : FnD P w K mg base (k + 1) f fd ps (defD N.length body) := by
  refine F.okX Sc (fun vs H Q E h => ?_) (fun cdv A outer s H vs Q E hr h => ?_)
  · obtain ⟨μ, F, g, ss, _, hs, hl, _⟩ := h
    rw [Paired.length hs, hl]
  · refine ⟨_, hbody cdv A outer s H E hr, ?_⟩
    obtain ⟨μ, F, g, ss, r, hs, hl, q⟩ := h
    refine ⟨μ, F, g, _, r, Re.start N hs, ?_⟩
    unfold defD at q
    cases e : body (ss.map some ++ List.replicate (N.length - ss.length) none) g with
    | nx ρ g' =>
      rw [e] at q
      intro μ' F' H' σ' x r' re'
      refine q (μ'.take μ.length) F' H' _ x.cut ?_ (.d .non)
      rw [← r.len]; exact r'.cut _
    | rt s g' =>
      rw [e] at q
      intro μ' F' H' v x r' sv
      refine snap_fin (E := E) x r' sv ?_
      rw [r.len]; exact q
    | exc C fs ρ g' =>
      rw [e] at q
      intro μ' F' H' σ' d x r' re' xd
      refine q (μ'.take μ.length) F' H' d x.cut ?_ xd
      rw [← r.len]; exact r'.cut _
    | bk ρ g' => rw [e] at q; exact q.elim
    | ct ρ g' => rw [e] at q; exact q.elim
    | bad => rw [e] at q; exact q.elim
theorem fn_c {x qual : Str} {st : Stmt} {f : Addr} {fd : FuncData} {N ps : List Str} {k : Nat} {body : DS} (F : Fun K x qual st f fd) (Sc : FnScope N ps (defScope st))
    (hbody : ∀ (cdv : Value) (A : Around) (outer : List PySem.Env) (s : Shared) (H : Hp) (E : XK), Room k (A.deeper (envOfC qual (defScope st) s.heap.objs.size f cdv)) →
      SDs (cxOf (L2.CX P w) P w K mg base N qual (defScope st) f cdv A outer s H E) (fun cls d _ H => E cls d H) (defBody st) body) : FnD P w K mg base (k + 1) f fd ps (defC N.length body) := by
  refine F.okX Sc (fun vs H Q E h => ?_) (fun cdv A outer s H vs Q E hr h => ?_)
  · obtain ⟨μ, F, g, ss, _, hs, hl, _⟩ := h
    rw [Paired.length hs, hl]
  · refine ⟨_, hbody cdv A outer s H E hr, ?_⟩
    obtain ⟨μ, F, g, ss, r, hs, hl, q⟩ := h
    refine ⟨μ, F, g, _, r, Re.start N hs, ?_⟩
    unfold defC at q
    cases e : body (ss.map some ++ List.replicate (N.length - ss.length) none) g with
    | rt s g' => rw [e] at q; exact q
    | nx ρ g' => rw [e] at q; exact q.elim
    | exc C fs ρ g' => rw [e] at q; exact q.elim
    | bk ρ g' => rw [e] at q; exact q.elim
    | ct ρ g' => rw [e] at q; exact q.elim
    | bad => rw [e] at q; exact q.elim
end
/-! ### calls -/
@[simp] def callD (φ : DF) (fl : DE (List S)) : DE S := fun ρ g => (fl ρ g).bind φ
theorem ed_call {k : Nat} {fA : Addr} {fd : FuncData} {ps : List Str} {φ : DF} {x : Str} {p : Pos} {es : List Expr} (Fo : FnD X.prog X.w X.K X.mg X.base k fA fd ps φ) (hr : Room k X.A) (tk : Takes X W) (hg : Gl X x) (hm : X.mg x = some (.ref fA)) (hk : PySem.W.keepIn X.K (.ref fA) = true) (hb : Binds X.K fd ps [])
    (hn : (e :: es).length = ps.length) (hfl : ∀ ρ g ss g', fl ρ g = .ok ss g' → ss.length = (e :: es).length) (ha : LD X W (e :: es) fl) (hdb : (x == ("__debug__" : Str)) = false := by decide) (he : starEach (e :: es) X.env = (false, eval e X.env) :: starEach es X.env := by rfl) (hpl : (backTo pos (starEach es X.env)).any (·.1) = false := by rfl) :
    ED X W (.Call (.Name x p) (e :: es) [] pos) (callD φ fl) :=
  pe_weak (pe_callSD (E := fun σ => XW W σ) Fo hr hg hm hk hb .nil (fun σ => fun _ _ _ e s' I c => tk e s' (XE.of_call I (fun _ _ _ h => h) c)) ha hdb he hpl) fun σ H Q ⟨μ, F, g, ρ, r, re, q⟩ => by
    refine ⟨μ, F, g, ρ, r, re, ?_⟩
    have q' : Post (relS X.K) X.K μ F (XW W σ) ((fl ρ g).bind φ) Q := q
    cases h : fl ρ g with
    | ok ss g1 =>
      rw [h] at q'
      intro μ1 F1 H1 vs x r1 s1
      rw [List.append_nil]
      exact ⟨μ1, F1, g1, ss, r1, s1, by rw [hfl ρ g ss g1 h, hn], q'.ext x⟩
    | exc C fs g1 => rw [h] at q'; exact q'
    | bad => rw [h] at q'; exact q'.elim
theorem len_nil : ∀ ρ g ss g', nilL ρ g = .ok ss g' → ss.length = ([] : List Expr).length := fun ρ g ss g' h => by
  cases h; rfl
theorem len_cons {e : Expr} {es : List Expr} {f : DE S} {fl : DE (List S)} (h : ∀ ρ g ss g', fl ρ g = .ok ss g' → ss.length = es.length) : ∀ ρ g ss g', consL f fl ρ g = .ok ss g' → ss.length = (e :: es).length := fun ρ g ss g' q => by
  unfold consL at q
  cases e1 : f ρ g with
  | exc => rw [e1] at q; cases q
  | bad => rw [e1] at q; cases q
  | ok s g1 =>
    rw [e1] at q
    rw [R.bind_ok] at q
    cases e2 : fl ρ g1 with
    | exc => rw [e2] at q; cases q
    | bad => rw [e2] at q; cases q
    | ok xs g3 =>
      rw [e2] at q
      have z : s :: xs = ss := by injection q
      rw [← z, List.length_cons, List.length_cons, h ρ g1 xs g3 e2]
theorem ed_call0 {k : Nat} {fA : Addr} {fd : FuncData} {φ : DF} {x : Str} {p : Pos} (Fo : FnD X.prog X.w X.K X.mg X.base k fA fd [] φ) (hr : Room k X.A) (tk : Takes X W) (hg : Gl X x) (hm : X.mg x = some (.ref fA)) (hk : PySem.W.keepIn X.K (.ref fA) = true) (hb : Binds X.K fd [] [])
    (hdb : (x == ("__debug__" : Str)) = false := by decide) : ED X W (.Call (.Name x p) [] [] pos) (callD φ nilL) := by
  refine ⟨fun pins s σ H Q I ⟨μ, F, g, ρ, r, re, q⟩ => ?_⟩
  have q' : Post (relS X.K) X.K μ F (XW W σ) (φ [] g) Q := q
  have hx : PassesAt (L2.CX X.prog X.w) X σ (XW W σ) := fun _ _ _ e s' I c => tk e s' (XE.of_call I (fun _ _ _ h => h) c)
  refine wpAny_Call_Name_kw (ld_glob I hg hm ?_ hdb)
  exact PySem.W.callWith_K0 I.kIn hk (run_fnSD (E := fun σ => XW W σ) (dvs := []) (ds := []) (us := []) (vs := []) Fo hr hb .nil hx I .nil ⟨μ, F, g, [], r, .nil, rfl, q'⟩)
end
end DL
/-! DL4: built-ins, places, slices, isinstance, fields, methods of lists, comprehensions. -/
namespace DL
open PySem PySem.Spec PyProof.Rows L2

/-! ### calls of built-ins -/
/-- what a built-in's rule r says, on slots -/
def CallD (K : PySem.W.Frag) (r : List V → Hp → VK → Prop) (op : List S → G → R S) : Prop :=
  ∀ (μ : Mp) (F H : Hp) (g : G) (E : XK) (vs : List V) (ss : List S) (Q : VK), Rp K μ F H g → SnL K μ F vs ss → Post (relS K) K μ F E (op ss g) Q → r vs H Q
@[simp] def cbD (op : List S → G → R S) (fl : DE (List S)) : DE S := fun ρ g => (fl ρ g).bind op
section
variable {X : Cx} {W : WX} {e a b c : Expr} {es : List Expr} {pos p : Pos} {fl : DE (List S)} {f1 f2 : DE S} {op : List S → G → R S} {r : List V → Hp → VK → Prop} {x : Str}
theorem cb_weak (h : CallD X.K r op) : ∀ σ H Q, tD X.K W (cbD op fl) σ H Q → tCB r (tDL X.K W fl) σ H Q := fun σ H Q ⟨μ, F, g, ρ, rp, re, q⟩ =>
  ⟨μ, F, g, ρ, rp, re, (Post.step (rel := relL X.K) q).imp fun vs H1 ⟨μ1, F1, a1, g1, x1, r1, s1, p1⟩ => h μ1 F1 H1 g1 _ vs a1 Q r1 s1 p1⟩
theorem ed_cb {id : String} (hc : CallR X (.builtin id) r) (h : CallD X.K r op) (hg : Gl X x) (hm : X.mg x = none) (hv : bootBuiltins x = some (.builtin id)) (ha : LD X W (e :: es) fl) (hn : x ≠ "__name__" := by decide) (hdb : (x == ("__debug__" : Str)) = false := by decide)
    (he : starEach (e :: es) X.env = (false, eval e X.env) :: starEach es X.env := by rfl) (hpl : (backTo pos (starEach es X.env)).any (·.1) = false := by rfl) : ED X W (.Call (.Name x p) (e :: es) [] pos) (cbD op fl) :=
  pe_weak (pe_callB hc hg hm hv ha hn hdb he hpl) (cb_weak h)
theorem ed_ct {T : String} (hc : CallR X (.type T) r) (h : CallD X.K r op) (hg : Gl X x) (hm : X.mg x = none) (hv : bootBuiltins x = some (.type T)) (ha : LD X W (e :: es) fl) (hn : x ≠ "__name__" := by decide) (hdb : (x == ("__debug__" : Str)) = false := by decide)
    (he : starEach (e :: es) X.env = (false, eval e X.env) :: starEach es X.env := by rfl) (hpl : (backTo pos (starEach es X.env)).any (·.1) = false := by rfl) : ED X W (.Call (.Name x p) (e :: es) [] pos) (cbD op fl) :=
  pe_weak (pe_callTy hc hg hm hv ha hn hdb he hpl) (cb_weak h)
end
/-- one argument, read as data -/
@[simp] def un1 (f : D → Option D) : List S → G → R S := fun ss g => match ss with
  | [s] => match snap g s with
    | some x => match f x with
      | some z => .ok (.d z) g
      | none => .bad
    | none => .bad
  | _ => .bad
section
variable {K : PySem.W.Frag} {r : List V → Hp → VK → Prop} {f : D → Option D}
theorem CallD.of1 (h : ∀ (F H : Hp) (x : V) (a z : D) (Q : VK), Ex F H → Dn K H x a → f a = some z → (∀ v, Dn K F v z → Q v H) → r [x] H Q) : CallD K r (un1 f) := by
  intro μ F H g E vs ss Q rp sv p
  unfold un1 at p
  cases sv with
  | nil => exact p.elim
  | cons s1 t =>
    cases t with
    | cons => exact p.elim
    | nil =>
      rename_i v s
      dsimp only at p
      cases e1 : snap g s with
      | none => rw [e1] at p; exact p.elim
      | some x =>
        rw [e1] at p
        dsimp only at p
        cases e2 : f x with
        | none => rw [e2] at p; exact p.elim
        | some z =>
          rw [e2] at p
          exact h F H v x z Q rp.ex (snap_ok rp s1 e1) e2 fun v hv => Post.ok p rp (.d hv)
theorem CallD.of1N (h : ∀ (μ : Mp) (F H : Hp) (g : G) (x : V) (a z : D) (Q : VK), Rp K μ F H g → Dn K H x a → f a = some z → (∀ μ' F' H' v, Ext μ F μ' F' → Rp K μ' F' H' g → Dn K F' v z → Q v H') → r [x] H Q) : CallD K r (un1 f) := by
  intro μ F H g E vs ss Q rp sv p
  unfold un1 at p
  cases sv with
  | nil => exact p.elim
  | cons s1 t =>
    cases t with
    | cons => exact p.elim
    | nil =>
      rename_i v s
      dsimp only at p
      cases e1 : snap g s with
      | none => rw [e1] at p; exact p.elim
      | some x =>
        rw [e1] at p
        dsimp only at p
        cases e2 : f x with
        | none => rw [e2] at p; exact p.elim
        | some z =>
          rw [e2] at p
          exact h μ F H g v x z Q rp (snap_ok rp s1 e1) e2 fun μ' F' H' v x y z => p μ' F' H' v x y (.d z)
end
/-- DnL with what was known of H -/
theorem dn_at {K : PySem.W.Frag} {H : Hp} {v : V} {ds : List D} {d : D} (h : Dn K H v d) (e : itemsD d = some ds) : ∃ a xs, v = .ref a ∧ (SqL K H a xs ∨ SqT K H a xs) ∧ DnL K H xs ds := by
  cases h <;> first | (cases e; done) | skip
  · rename_i a xs ds' hq hd
    cases e
    exact ⟨a, xs, rfl, .inr hq, hd⟩
  · rename_i a xs ds' hq hd
    cases e
    exact ⟨a, xs, rfl, .inl (SqL.of hq), hd⟩
  · rename_i a ns hq
    cases e
    exact ⟨a, _, rfl, .inl hq, DnL.ints _⟩
@[simp] def lenD : D → Option D
  | .str x => if x.length ≤ 10000000 then some (.int x.length) else none
  | .tup ds => some (.int ds.length)
  | .lst ds => some (.int ds.length)
  | .scr ns => some (.int ns.length)
  | _ => none
theorem cd_len {K : PySem.W.Frag} : CallD K (fun xs H Q => ∃ x n, xs = [x] ∧ LenV K x H n ∧ Q (.int n) H) (un1 lenD) := CallD.of1 fun F H x a z Q ex hx e q => by
  cases hx <;> first | (cases e; done) | skip
  · rename_i y
    have e' : (if y.length ≤ 10000000 then some (D.int y.length) else none) = some z := e
    by_cases h : y.length ≤ 10000000
    · rw [if_pos h] at e'
      cases e'
      exact ⟨_, y.length, rfl, ⟨Nat.le_trans h (by decide), rfl⟩, q _ (.int _)⟩
    · rw [if_neg h] at e'; cases e'
  · rename_i a xs ds hq hd
    cases e
    exact ⟨_, ds.length, rfl, .inr ⟨xs, hq, hd.length.symm⟩, q _ (.int _)⟩
  · rename_i a xs ds hq hd
    cases e
    exact ⟨_, ds.length, rfl, .inl ⟨xs, SqL.of hq, hd.length.symm⟩, q _ (.int _)⟩
  · rename_i a ns hq
    cases e
    exact ⟨_, ns.length, rfl, .inl ⟨_, hq, by simp⟩, q _ (.int _)⟩
@[simp] def intD : D → Option D
  | .int i => some (.int i)
  | .bl b => some (.int (if b then 1 else 0))
  | _ => none
theorem cd_int {K : PySem.W.Frag} : CallD K (fun xs H Q => (∃ i, xs = [.int i] ∧ Q (.int i) H) ∨ ∃ k, xs = [.bl k] ∧ Q (.int (if k then 1 else 0)) H) (un1 intD) := CallD.of1 fun F H x a z Q ex hx e q => by
  cases hx <;> first | (cases e; done) | skip
  · cases e; exact .inr ⟨_, rfl, q _ (.int _)⟩
  · cases e; exact .inl ⟨_, rfl, q _ (.int _)⟩
@[simp] def absD : D → Option D
  | .int i => some (.int (if i < 0 then -i else i))
  | _ => none
theorem cd_abs {K : PySem.W.Frag} : CallD K (fun xs H Q => ∃ i, xs = [.int i] ∧ Q (.int (if i < 0 then -i else i)) H) (un1 absD) := CallD.of1 fun F H x a z Q ex hx e q => by
  cases hx <;> first | (cases e; done) | skip
  cases e; exact ⟨_, rfl, q _ (.int _)⟩
def intsL : List D → Option (List Int)
  | [] => some []
  | .int i :: r => (intsL r).map (i :: ·)
  | _ :: _ => none
theorem intsL_ok {K : PySem.W.Frag} {F : Hp} : ∀ {vs : List V} {ds : List D} {ns : List Int}, DnL K F vs ds → intsL ds = some ns → vs = ns.map V.int
  | _, _, _, .nil, e => by cases e; rfl
  | _, d :: ds, ns, .cons h t, e => by
    cases h <;> first | (cases e; done) | skip
    rename_i i
    have e' : (intsL ds).map (i :: ·) = some ns := e
    cases q : intsL ds with
    | none => rw [q] at e'; cases e'
    | some ms => rw [q] at e'; cases e'; rw [intsL_ok t q]; rfl
def blsL : List D → Option (List Bool)
  | [] => some []
  | .bl i :: r => (blsL r).map (i :: ·)
  | _ :: _ => none
theorem blsL_ok {K : PySem.W.Frag} {F : Hp} : ∀ {vs : List V} {ds : List D} {ns : List Bool}, DnL K F vs ds → blsL ds = some ns → vs = ns.map V.bl
  | _, _, _, .nil, e => by cases e; rfl
  | _, d :: ds, ns, .cons h t, e => by
    cases h <;> first | (cases e; done) | skip
    rename_i i
    have e' : (blsL ds).map (i :: ·) = some ns := e
    cases q : blsL ds with
    | none => rw [q] at e'; cases e'
    | some ms => rw [q] at e'; cases e'; rw [blsL_ok t q]; rfl
@[simp] theorem intsL_map (ns : List Int) : intsL (ns.map D.int) = some ns := by
  induction ns with
  | nil => rfl
  | cons n ns ih => show (intsL (ns.map D.int)).map (n :: ·) = _; rw [ih]; rfl
@[simp] theorem blsL_map (ns : List Bool) : blsL (ns.map D.bl) = some ns := by
  induction ns with
  | nil => rfl
  | cons n ns ih => show (blsL (ns.map D.bl)).map (n :: ·) = _; rw [ih]; rfl
def sumD : D → Option D
  | .lst ds => (intsL ds).map fun ns => .int ns.sum
  | .scr ns => some (.int ns.sum)
  | _ => none
theorem cd_sum {K : PySem.W.Frag} : CallD K (rSum K) (un1 sumD) := CallD.of1 fun F H x a z Q ex hx e q => by
  cases hx <;> first | (cases e; done) | skip
  · rename_i a xs ds hq hd
    have e' : ((intsL ds).map fun ns => D.int ns.sum) = some z := e
    cases h : intsL ds with
    | none => rw [h] at e'; cases e'
    | some ns =>
      rw [h] at e'; cases e'
      exact ⟨a, ns, rfl, by rw [← intsL_ok hd h]; exact SqL.of hq, q _ (.int _)⟩
  · rename_i a ns hq
    cases e
    exact ⟨a, ns, rfl, hq, q _ (.int _)⟩
def allF : D → Option D
  | .lst ds => (blsL ds).map fun ns => .bl (ns.all id)
  | _ => none
def anyF : D → Option D
  | .lst ds => (blsL ds).map fun ns => .bl (ns.any id)
  | _ => none
theorem cd_all {K : PySem.W.Frag} : CallD K (rAll K) (un1 allF) := CallD.of1 fun F H x a z Q ex hx e q => by
  cases hx <;> first | (cases e; done) | skip
  rename_i a xs ds hq hd
  have e' : ((blsL ds).map fun ns => D.bl (ns.all id)) = some z := e
  cases h : blsL ds with
  | none => rw [h] at e'; cases e'
  | some ns =>
    rw [h] at e'; cases e'
    exact ⟨a, ns, rfl, by rw [← blsL_ok hd h]; exact SqL.of hq, q _ (.bl _)⟩
theorem cd_any {K : PySem.W.Frag} : CallD K (rAny K) (un1 anyF) := CallD.of1 fun F H x a z Q ex hx e q => by
  cases hx <;> first | (cases e; done) | skip
  rename_i a xs ds hq hd
  have e' : ((blsL ds).map fun ns => D.bl (ns.any id)) = some z := e
  cases h : blsL ds with
  | none => rw [h] at e'; cases e'
  | some ns =>
    rw [h] at e'; cases e'
    exact ⟨a, ns, rfl, by rw [← blsL_ok hd h]; exact SqL.of hq, q _ (.bl _)⟩
def tupF : D → Option D
  | .lst ds => some (.tup ds)
  | .tup ds => some (.tup ds)
  | .scr ns => some (.tup (ns.map D.int))
  | _ => none
/-- a list or tuple as the list of its data -/
def readL (g : G) : S → Option (List D)
  | .d x => itemsD x
  | .c n => match g[n]? with
    | some (.lst ds) => some ds
    | _ => none
  | .i n => match g[n]? with
    | some (.tp _ cs _) => some (cs.map D.int)
    | _ => none
@[simp] theorem readL_lst (g : G) (ds : List D) : readL g (.d (.lst ds)) = some ds := rfl
@[simp] theorem readL_tup (g : G) (ds : List D) : readL g (.d (.tup ds)) = some ds := rfl
@[simp] theorem readL_scr (g : G) (ns : List Int) : readL g (.d (.scr ns)) = some (ns.map D.int) := rfl
theorem readL_ok {K : PySem.W.Frag} {μ : Mp} {F H : Hp} {g : G} (r : Rp K μ F H g) {v : V} {s : S} {ds : List D} (h : Sn K μ F v s) (e : readL g s = some ds) : ∃ a xs, v = .ref a ∧ (SqL K H a xs ∨ SqT K F a xs) ∧ DnL K F xs ds := by
  cases h with
  | d h =>
    obtain ⟨a, xs, rfl, q, d⟩ := dn_at h e
    exact ⟨a, xs, rfl, q.elim (fun z => .inl (ex_l r.ex z)) .inr, d⟩
  | @c n a l h =>
    obtain ⟨c, q, ok⟩ := r.cell h
    have e' : (match g[n]? with
      | some (.lst ds) => some ds
      | _ => none) = some ds := e
    rw [q] at e'
    cases c <;> first | (cases e'; done) | skip
    obtain ⟨b, z, _, ys, h1, h2⟩ := ok; cases z; cases e'
    exact ⟨a, ys, rfl, .inl (SqL.of h1), h2⟩
  | @i n a b l h =>
    obtain ⟨c, q, ok⟩ := r.cell h
    have e' : (match g[n]? with
      | some (.tp _ cs _) => some (cs.map D.int)
      | _ => none) = some ds := e
    rw [q] at e'
    cases c <;> first | (cases e'; done) | skip
    obtain ⟨a', b', z, _, _, _, xs, ys, h1, h2, h3, h4⟩ := ok; cases z; cases e'
    exact ⟨b, _, rfl, .inl (SqL.of h4), DnL.ints _⟩
/-- lists alone -/
def readLL (g : G) : S → Option (List D)
  | .d (.tup _) => none
  | s => readL g s
@[simp] theorem readLL_lst (g : G) (ds : List D) : readLL g (.d (.lst ds)) = some ds := rfl
@[simp] theorem readLL_scr (g : G) (ns : List Int) : readLL g (.d (.scr ns)) = some (ns.map D.int) := rfl
theorem readLL_ok {K : PySem.W.Frag} {μ : Mp} {F H : Hp} {g : G} (r : Rp K μ F H g) {v : V} {s : S} {ds : List D} (h : Sn K μ F v s) (e : readLL g s = some ds) : ∃ a xs, v = .ref a ∧ SqL K H a xs ∧ DnL K F xs ds := by
  cases h with
  | d h =>
    cases h <;> first | (cases e; done) | skip
    · cases e; exact ⟨_, _, rfl, SqL.of (r.ex _ _ (by assumption)), by assumption⟩
    · cases e; exact ⟨_, _, rfl, ex_l r.ex (by assumption), DnL.ints _⟩
  | @c n a l h =>
    obtain ⟨c, q, ok⟩ := r.cell h
    have e' : (match g[n]? with
      | some (.lst ds) => some ds
      | _ => none) = some ds := e
    rw [q] at e'
    cases c <;> first | (cases e'; done) | skip
    obtain ⟨b, z, _, ys, h1, h2⟩ := ok; cases z; cases e'
    exact ⟨a, ys, rfl, SqL.of h1, h2⟩
  | @i n a b l h =>
    obtain ⟨c, q, ok⟩ := r.cell h
    have e' : (match g[n]? with
      | some (.tp _ cs _) => some (cs.map D.int)
      | _ => none) = some ds := e
    rw [q] at e'
    cases c <;> first | (cases e'; done) | skip
    obtain ⟨a', b', z, _, _, _, xs, ys, h1, h2, h3, h4⟩ := ok; cases z; cases e'
    exact ⟨b, _, rfl, SqL.of h4, DnL.ints _⟩
theorem lt_or {K : PySem.W.Frag} {F H : Hp} {a : Addr} {xs : List V} (e : Ex F H) (q : SqL K H a xs ∨ SqT K F a xs) : SqL K H a xs ∨ SqT K H a xs := q.elim .inl fun z => .inr (ex_t e z)
/-- one argument, read as a list of data; a value back -/
def rd1 (f : List D → Option D) : List S → G → R S := fun ss g => match ss with
  | [s] => match readL g s with
    | some ds => match f ds with
      | some z => .ok (.d z) g
      | none => .bad
    | none => .bad
  | _ => .bad
section
variable {K : PySem.W.Frag} {r : List V → Hp → VK → Prop} {f : List D → Option D}
theorem CallD.ofL (h : ∀ (μ : Mp) (F H : Hp) (g : G) (a : Addr) (xs : List V) (ds : List D) (z : D) (Q : VK), Rp K μ F H g → (SqL K H a xs ∨ SqT K F a xs) → DnL K F xs ds → f ds = some z → (∀ μ' F' H' v, Ext μ F μ' F' → Rp K μ' F' H' g → Dn K F' v z → Q v H') → r [.ref a] H Q) : CallD K r (rd1 f) := by
  intro μ F H g E vs ss Q rp sv p
  unfold rd1 at p
  cases sv with
  | nil => exact p.elim
  | cons s1 t =>
    cases t with
    | cons => exact p.elim
    | nil =>
      rename_i v s
      dsimp only at p
      cases e1 : readL g s with
      | none => rw [e1] at p; exact p.elim
      | some ds =>
        rw [e1] at p
        dsimp only at p
        cases e2 : f ds with
        | none => rw [e2] at p; exact p.elim
        | some z =>
          rw [e2] at p
          obtain ⟨a, xs, rfl, q, hd⟩ := readL_ok rp s1 e1
          exact h μ F H g a xs ds z Q rp q hd e2 fun μ' F' H' v x y z => p μ' F' H' v x y (.d z)
end
/-- tuple(x), list(x) (frozen) -/
def tupC : List S → G → R S := rd1 fun ds => some (.tup ds)
def lstC : List S → G → R S := rd1 fun ds => some (.lst ds)
theorem cd_tuple {K : PySem.W.Frag} : CallD K (fun xs H Q => ∃ a ys, xs = [.ref a] ∧ ((SqL K H a ys ∧ ∀ l, H l = none → Q (.ref l) (upd H l (.tup ys))) ∨ (SqT K H a ys ∧ Q (.ref a) H))) tupC := CallD.ofL fun μ F H g a xs ds z Q rp q hd e k => by
  cases e
  refine ⟨a, xs, rfl, q.elim (fun z => .inl ⟨z, fun l hl => ?_⟩) fun z => .inr ⟨ex_t rp.ex z, ?_⟩⟩
  · exact k μ _ _ _ (Ext.new (rp.fresh hl)) (rp.new hl) (.tup (SqT.of upd_same) (hd.mono (Ext.new (μ := μ) (rp.fresh hl)).f))
  · exact k μ _ _ _ (.refl _ _) rp (.tup z hd)
theorem cd_list {K : PySem.W.Frag} : CallD K (fun xs H Q => ∃ p ys, xs = [.ref p] ∧ (SqL K H p ys ∨ SqT K H p ys) ∧ ∀ l, H l = none → Q (.ref l) (upd H l (.lst ys))) lstC := CallD.ofL fun μ F H g a xs ds z Q rp q hd e k => by
  cases e
  exact ⟨a, xs, rfl, lt_or rp.ex q, fun l hl => k μ _ _ _ (Ext.new (rp.fresh hl)) (rp.new hl) (.lst upd_same (hd.mono (Ext.new (μ := μ) (rp.fresh hl)).f))⟩
/-- list(x) as a new cell -/
def lstCC : List S → G → R S := fun ss g => match ss with
  | [s] => match readL g s with
    | some ds => .ok (.c g.length) (g ++ [.lst ds])
    | none => .bad
  | _ => .bad
theorem cd_listC {K : PySem.W.Frag} : CallD K (fun xs H Q => ∃ p ys, xs = [.ref p] ∧ (SqL K H p ys ∨ SqT K H p ys) ∧ ∀ l, H l = none → Q (.ref l) (upd H l (.lst ys))) lstCC := by
  intro μ F H g E vs ss Q rp sv p
  unfold lstCC at p
  cases sv with
  | nil => exact p.elim
  | cons s1 t =>
    cases t with
    | cons => exact p.elim
    | nil =>
      rename_i v s
      dsimp only at p
      cases e1 : readL g s with
      | none => rw [e1] at p; exact p.elim
      | some ds =>
        rw [e1] at p
        obtain ⟨a, xs, rfl, q, hd⟩ := readL_ok rp s1 e1
        exact ⟨a, xs, rfl, lt_or rp.ex q, fun l hl => p (μ ++ [[l]]) F _ _ Ext.push (rp.push hl ⟨l, rfl, rp.fresh hl, _, upd_same, hd⟩) (.c (l := []) (by rw [← rp.len]; simp))⟩
/-! ### a[i] -/
/-- a place of a list, counted from behind below 0 -/
def ixF (n : Nat) (i : Int) : Option Nat := ixN n i
theorem DnL.at {K : PySem.W.Frag} {F : Hp} {xs : List V} {ds : List D} {i : Int} {d : D} (h : DnL K F xs ds) (e : atI ds i = some d) : ∃ v, atI xs i = some v ∧ Dn K F v d := by
  unfold atI at e ⊢
  rw [h.length]
  cases q : ixN ds.length i with
  | none => rw [q] at e; cases e
  | some j => rw [q] at e; exact h.get e
/-- what stands in a tape's list: its ints and data; the inner list -/
def tpAt (n : Nat) (pre : List D) (post : List D) (i : Int) : Option S :=
  match ixN (pre.length + 1 + post.length) i with
  | some j => if j < pre.length then (pre[j]?).map S.d else if j = pre.length then some (.i n) else (post[j - pre.length - 1]?).map S.d
  | none => none
def ixS : S → S → G → R S := fun s i g => match i with
  | .d (.int k) => match s with
    | .d (.str z) => if z.length ≤ 10000000 then (match atI z.cps.toList k with
      | some c => .ok (.d (.str ⟨#[c]⟩)) g
      | none => .bad) else .bad
    | .c n => match g[n]? with
      | some (.lst ds) => match atI ds k with
        | some x => .ok (.d x) g
        | none => .bad
      | some (.tp pre _ post) => match tpAt n pre post k with
        | some x => .ok x g
        | none => .bad
      | _ => .bad
    | s => match readL g s with
      | some ds => match atI ds k with
        | some x => .ok (.d x) g
        | none => .bad
      | none => .bad
  | _ => .bad
theorem opd_ix {K : PySem.W.Frag} : OpD K (rIx K) ixS := by
  intro μ F H g E x y a b Q rp sx sy p
  unfold ixS at p
  have rd : ∀ {s : S} {k : Int} {x : V}, Sn K μ F x s → Post (relS K) K μ F E (match readL g s with
      | some ds => match atI ds k with
        | some x => .ok (.d x) g
        | none => .bad
      | none => .bad) Q → rIx K x (.int k) H Q := fun {s k x} sx p => by
    cases e1 : readL g s with
    | none => rw [e1] at p; exact p.elim
    | some ds =>
      rw [e1] at p
      dsimp only at p
      cases e2 : atI ds k with
      | none => rw [e2] at p; exact p.elim
      | some d =>
        rw [e2] at p
        obtain ⟨a, xs, rfl, q, hd⟩ := readL_ok rp sx e1
        obtain ⟨v, h1, h2⟩ := hd.at e2
        have z : Q v H := Post.ok p rp (.d h2)
        rcases q with q | q
        · exact .inl ⟨a, xs, k, v, rfl, rfl, q, h1, z⟩
        · exact .inr (.inl ⟨a, xs, k, v, rfl, rfl, ex_t rp.ex q, h1, z⟩)
  cases sy with
  | c h => exact p.elim
  | i h => exact p.elim
  | d hy =>
    cases hy <;> first | exact False.elim p | skip
    rename_i k
    dsimp only at p
    split at p
    · rename_i z
      cases sx with
      | d hx =>
        cases hx
        split at p
        · rename_i hz
          split at p
          · rename_i c hc
            exact .inr (.inr ⟨z, k, c, rfl, rfl, Nat.le_trans hz (by decide), hc, Post.ok p rp (.d (.str _))⟩)
          · exact p.elim
        · exact p.elim
    · rename_i n
      cases sx with
      | @c _ a l h =>
        obtain ⟨c, q, ok⟩ := rp.cell h
        rw [q] at p
        cases c with
        | dead => exact p.elim
        | ins => exact p.elim
        | dk => exact p.elim
        | lst ds =>
          refine rd (s := .c n) (.c h) ?_
          show Post (relS K) K μ F E (match (match g[n]? with
            | some (.lst ds) => some ds
            | _ => none) with
            | some ds => match atI ds k with
              | some x => .ok (.d x) g
              | none => .bad
            | none => .bad) Q
          rw [q]
          exact p
        | tp pre cs post =>
          dsimp only at p
          obtain ⟨a', b', z, _, _, _, xs, ys, h1, h2, h3, h4⟩ := ok
          cases z
          split at p
          · rename_i x hx
            unfold tpAt at hx
            have len : (xs ++ V.ref b' :: ys).length = pre.length + 1 + post.length := by
              rw [List.length_append, List.length_cons, h2.length, h3.length]; omega
            cases e : ixN (pre.length + 1 + post.length) k with
            | none => rw [e] at hx; cases hx
            | some j =>
              rw [e] at hx
              dsimp only at hx
              have at' : ∀ {v : V}, (xs ++ V.ref b' :: ys)[j]? = some v → Q v H → rIx K (.ref a) (.int k) H Q := fun {v} hv q => .inl ⟨a, _, k, v, rfl, rfl, SqL.of h1, by unfold atI; rw [len, e]; exact hv, q⟩
              by_cases c1 : j < pre.length
              · rw [if_pos c1] at hx
                cases e3 : pre[j]? with
                | none => rw [e3] at hx; cases hx
                | some d =>
                  rw [e3] at hx; cases hx
                  obtain ⟨v, h5, h6⟩ := h2.get e3
                  exact at' (by rw [List.getElem?_append_left (by rw [h2.length]; exact c1)]; exact h5) (Post.ok p rp (.d h6))
              · rw [if_neg c1] at hx
                by_cases c2 : j = pre.length
                · rw [if_pos c2] at hx
                  cases hx
                  exact at' (v := .ref b') (by rw [List.getElem?_append_right (by rw [h2.length]; omega), h2.length, c2]; simp) (Post.ok p rp (.i h))
                · rw [if_neg c2] at hx
                  cases e3 : post[j - pre.length - 1]? with
                  | none => rw [e3] at hx; cases hx
                  | some d =>
                    rw [e3] at hx; cases hx
                    obtain ⟨v, h5, h6⟩ := h3.get e3
                    refine at' (v := v) ?_ (Post.ok p rp (.d h6))
                    rw [List.getElem?_append_right (by rw [h2.length]; omega), h2.length]
                    have : j - pre.length = (j - pre.length - 1) + 1 := by omega
                    rw [this, List.getElem?_cons_succ]
                    exact h5
          · exact p.elim
    · exact rd sx p
section
variable {X : Cx} {W : WX} {e a b c : Expr} {es : List Expr} {pos p : Pos} {fl : DE (List S)} {f f1 f2 : DE S}
theorem ed_ix (h1 : ED X W a f1) (h2 : ED X W b f2) (hs : PlainIx b := by intro _ _; rfl) : ED X W (.Subscript a b pos) (bin2 f1 f2 ixS) := ed_bin (fun _ _ p q => pe_ix ix_seq p q hs) h1 h2 opd_ix
/-! ### slices -/
def tOD (K : PySem.W.Frag) (W : WX) (f : DE (Option Int)) : TO := fun σ H Q => ∃ μ F g ρ, Rp K μ F H g ∧ Re K μ F σ ρ ∧ Post (fun _ _ (x : Option Int) y => x = y) K μ F (XW W σ) (f ρ g) Q
def OD (X : Cx) (W : WX) (e : Option Expr) (f : DE (Option Int)) : Prop := PO X e (tOD X.K W f)
@[simp] def noO : DE (Option Int) := fun _ g => .ok none g
@[simp] def someO (f : DE S) : DE (Option Int) := fun ρ g => (f ρ g).bind fun s g1 => match s with
  | .d (.int i) => .ok (some i) g1
  | _ => .bad
theorem po_weak {X : Cx} {e : Option Expr} {t t' : TO} (h : PO X e t) (k : ∀ σ H Q, t' σ H Q → t σ H Q) : PO X e t' := ⟨fun pins s σ H Q I q => h.run pins s σ H Q I (k σ H Q q)⟩
theorem od_none : OD X W none noO := po_weak po_none fun σ H Q ⟨μ, F, g, ρ, r, re, q⟩ => Post.ok q r rfl
theorem od_some (h : ED X W e f) : OD X W (some e) (someO f) := po_weak (po_some h) fun σ H Q ⟨μ, F, g, ρ, r, re, q⟩ => by
  obtain ⟨μ0, F0, g0, ρ0, r0, re0, p0⟩ := tD.step r re q
  refine ⟨μ0, F0, g0, ρ0, r0, re0, p0.imp fun x H1 ⟨μ1, F1, a1, g1, r1, re1, s1, p1⟩ => ?_⟩
  cases a1 with
  | c n => exact p1.elim
  | i n => exact p1.elim
  | d d =>
    cases d <;> first | exact False.elim p1 | skip
    cases s1 with
    | d s1 => cases s1; exact ⟨_, rfl, Post.ok p1 r1 rfl⟩
def cutL {α : Type} (xs : List α) (lo hi : Option Int) : List α := (xs.drop (HT.sIx xs.length 0 lo)).take (HT.sIx xs.length xs.length hi - HT.sIx xs.length 0 lo)
def slD (f : DE S) (fl fh : DE (Option Int)) : DE S := fun ρ g => (f ρ g).bind fun s g1 => (fl ρ g1).bind fun lo g2 => (fh ρ g2).bind fun hi g3 => match s with
  | .d (.tup ds) => .ok (.d (.tup (cutL ds lo hi))) g3
  | .d (.str z) => if z.length ≤ 10000000 then .ok (.d (.str (cutS z lo hi))) g3 else .bad
  | s => match readLL g3 s with
    | some ds => .ok (.d (.lst (cutL ds lo hi))) g3
    | none => .bad
def rSlX (K : PySem.W.Frag) : V → Option Int → Option Int → Hp → VK → Prop := fun x lo hi H Q => rSlL K x lo hi H Q ∨ (rSlA K x lo hi H Q ∨ rSlS x lo hi H Q)
theorem sl_x : SlR X (rSlX X.K) := sl_list.or (sl_tupA.or sl_str)
theorem DnL.cut {K : PySem.W.Frag} {F : Hp} {xs : List V} {ds : List D} (h : DnL K F xs ds) (lo hi : Option Int) : DnL K F (cutV xs lo hi) (cutL ds lo hi) := by
  unfold cutV cutL
  rw [h.length]
  exact (h.drop _).take _
theorem ed_sl {lo hi : Option Expr} {fl fh : DE (Option Int)} {p2 : Pos} (h : ED X W e f) (hl : OD X W lo fl) (hh : OD X W hi fh) : ED X W (.Subscript e (.Slice lo hi none p2) pos) (slD f fl fh) :=
  pe_weak (pe_slice sl_x h hl hh) fun σ H Q ⟨μ, F, g, ρ, r, re, q⟩ => by
    obtain ⟨μ0, F0, g0, ρ0, r0, re0, p0⟩ := tD.step r re q
    refine ⟨μ0, F0, g0, ρ0, r0, re0, p0.imp fun x H1 ⟨μ1, F1, a1, g1, r1, re1, s1, p1⟩ => ?_⟩
    refine ⟨μ1, F1, g1, ρ, r1, re1, (Post.step (rel := fun _ _ (x : Option Int) y => x = y) p1).imp fun l H2 ⟨μ2, F2, a2, g2, x2, r2, s2, p2⟩ => ?_⟩
    cases s2
    refine ⟨μ2, F2, g2, ρ, r2, re1.mono x2, (Post.step (rel := fun _ _ (x : Option Int) y => x = y) p2).imp fun u H3 ⟨μ3, F3, a3, g3, x3, r3, s3, p3⟩ => ?_⟩
    cases s3
    have sx := s1.mono (x2.trans x3)
    have lst : ∀ {ds : List D}, readLL g3 a1 = some ds → Post (relS X.K) X.K μ3 F3 (XW W σ) (.ok (.d (.lst (cutL ds l u))) g3) Q → rSlX X.K x l u H3 Q := fun {ds} e1 p3 => by
      obtain ⟨a, xs, rfl, q, hd⟩ := readLL_ok r3 sx e1
      refine .inl ⟨a, xs, rfl, q, fun p hp => ?_⟩
      exact p3 μ3 _ _ _ (Ext.new (r3.fresh hp)) (r3.new hp) (.d (.lst upd_same ((hd.cut l u).mono (Ext.new (μ := μ3) (r3.fresh hp)).f)))
    have other : Post (relS X.K) X.K μ3 F3 (XW W σ) (match readLL g3 a1 with
      | some ds => .ok (.d (.lst (cutL ds l u))) g3
      | none => .bad) Q → rSlX X.K x l u H3 Q := fun p3 => by
      cases e1 : readLL g3 a1 with
      | none => rw [e1] at p3; exact p3.elim
      | some ds => rw [e1] at p3; exact lst e1 p3
    cases a1 with
    | c n => exact other p3
    | i n => exact other p3
    | d d =>
      cases d with
      | tup ds =>
        cases sx with
        | d hx =>
          cases hx with
          | @tup a xs _ hq hd =>
            refine .inr (.inl ⟨a, xs, rfl, ex_t r3.ex hq, fun hw => ?_, fun hw p hp => ?_⟩)
            · have e : cutL ds l u = ds := by
                unfold cutL
                rw [← hd.length, hw.1, hw.2]
                simp [hd.length]
              dsimp only at p3
              rw [e] at p3
              exact Post.ok p3 r3 (.d (.tup hq hd))
            · exact p3 μ3 _ _ _ (Ext.new (r3.fresh hp)) (r3.new hp) (.d (.tup (SqT.of upd_same) ((hd.cut l u).mono (Ext.new (μ := μ3) (r3.fresh hp)).f)))
      | str z =>
        cases sx with
        | d hx =>
          cases hx
          dsimp only at p3
          by_cases hz : z.length ≤ 10000000
          · rw [if_pos hz] at p3
            exact .inr (.inr ⟨z, rfl, Nat.le_trans hz (by decide), Post.ok p3 r3 (.d (.str _))⟩)
          · rw [if_neg hz] at p3; exact p3.elim
      | _ => exact other p3
end
end DL
/-! DL5: +, chains, in, is None, isinstance, fields, list methods, stores to places, comprehensions. -/
namespace DL
open PySem PySem.Spec PyProof.Rows L2
section
variable {X : Cx} {W : WX} {e a b c o : Expr} {es : List Expr} {pos p p2 : Pos} {fl : DE (List S)} {f f1 f2 f3 : DE S}
theorem opr_or {h : Value → Value → Sem Value} {r r' : R2} (h1 : OpR X h r) (h2 : OpR X h r') : OpR X h (fun x y H Q => r x y H Q ∨ r' x y H Q) := by
  intro pins s σ H x y v u Q I rx ry q
  rcases q with q | q
  · exact h1 pins s σ H x y v u Q I rx ry q
  · exact h2 pins s σ H x y v u Q I rx ry q
/-! ### + -/
/-- a list that is tracked by itself -/
def readT (g : G) : S → Option (List D)
  | .d (.lst ds) => some ds
  | .d _ => none
  | s => readL g s
theorem readT_ok {K : PySem.W.Frag} {μ : Mp} {F H : Hp} {g : G} (r : Rp K μ F H g) {v : V} {s : S} {ds : List D} (h : Sn K μ F v s) (e : readT g s = some ds) : ∃ a xs, v = .ref a ∧ H a = some (.lst xs) ∧ DnL K F xs ds := by
  cases h with
  | d h =>
    cases h <;> first | (cases e; done) | skip
    cases e; exact ⟨_, _, rfl, r.ex _ _ (by assumption), by assumption⟩
  | @c n a l h =>
    obtain ⟨c, q, ok⟩ := r.cell h
    have e' : (match g[n]? with
      | some (.lst ds) => some ds
      | _ => none) = some ds := e
    rw [q] at e'
    cases c <;> first | (cases e'; done) | skip
    obtain ⟨b, z, _, ys, h1, h2⟩ := ok; cases z; cases e'
    exact ⟨a, ys, rfl, h1, h2⟩
  | @i n a b l h =>
    obtain ⟨c, q, ok⟩ := r.cell h
    have e' : (match g[n]? with
      | some (.tp _ cs _) => some (cs.map D.int)
      | _ => none) = some ds := e
    rw [q] at e'
    cases c <;> first | (cases e'; done) | skip
    obtain ⟨a', b', z, _, _, _, xs, ys, h1, h2, h3, h4⟩ := ok; cases z; cases e'
    exact ⟨b, _, rfl, h4, DnL.ints _⟩
def addS : S → S → G → R S := fun a b g => match a, b with
  | .d (.int i), .d (.int j) => .ok (.d (.int (i + j))) g
  | .d (.str x), .d (.str y) => if x.length + y.length ≤ 10000000 then .ok (.d (.str (x ++ y))) g else .bad
  | .d (.tup xs), .d (.tup ys) => if xs.length + ys.length ≤ 10000000 then .ok (.d (.tup (xs ++ ys))) g else .bad
  | a, b => match readT g a, readT g b with
    | some xs, some ys => if xs.length + ys.length ≤ 10000000 then .ok (.d (.lst (xs ++ ys))) g else .bad
    | _, _ => .bad
def rAddX (K : PySem.W.Frag) : R2 := fun x y H Q => rI0 (fun i j => .int (i + j)) x y H Q ∨ (rCatA K x y H Q ∨ (rCat x y H Q ∨ (fun x y H Q => ∃ i j, x = .str i ∧ y = .str j ∧ i.length + j.length ≤ sizeLine ∧ Q (.str (i ++ j)) H) x y H Q))
theorem op_addX : OpR X (binaryOp .Add) (rAddX X.K) := opr_or op_add (opr_or op_catA (opr_or op_cat op_add_str))
theorem big_le {n : Nat} (h : n ≤ 10000000) : n ≤ sizeLine := Nat.le_trans h (by decide)
theorem opd_addX {K : PySem.W.Frag} : OpD K (rAddX K) addS := by
  intro μ F H g E x y a b Q rp sx sy p
  have lst : Post (relS K) K μ F E (match readT g a, readT g b with
    | some xs, some ys => if xs.length + ys.length ≤ 10000000 then .ok (.d (.lst (xs ++ ys))) g else .bad
    | _, _ => .bad) Q → rAddX K x y H Q := fun p => by
    cases e1 : readT g a with
    | none => rw [e1] at p; exact p.elim
    | some xs =>
      cases e2 : readT g b with
      | none => rw [e1, e2] at p; exact p.elim
      | some ys =>
        rw [e1, e2] at p
        dsimp only at p
        by_cases hl : xs.length + ys.length ≤ 10000000
        · rw [if_pos hl] at p
          obtain ⟨l, vs, rfl, h1, d1⟩ := readT_ok rp sx e1
          obtain ⟨l2, ws, rfl, h2, d2⟩ := readT_ok rp sy e2
          refine .inr (.inr (.inl ⟨l, l2, vs, ws, rfl, rfl, h1, h2, by rw [d1.length, d2.length]; exact big_le hl, fun q hq => ?_⟩))
          exact p μ _ _ _ (Ext.new (rp.fresh hq)) (rp.new hq) (.d (.lst upd_same ((d1.append d2).mono (Ext.new (μ := μ) (rp.fresh hq)).f)))
        · rw [if_neg hl] at p; exact p.elim
  unfold addS at p
  cases a with
  | c n => exact lst p
  | i n => exact lst p
  | d d =>
    cases b with
    | c n => cases d <;> exact lst p
    | i n => cases d <;> exact lst p
    | d d' =>
      cases d with
      | int i =>
        cases d' with
        | int j =>
          cases sx with
          | d hx =>
            cases hx
            cases sy with
            | d hy => cases hy; exact .inl ⟨_, _, rfl, rfl, Post.ok p rp (.d (.int _))⟩
        | _ => exact lst p
      | str s =>
        cases d' with
        | str t =>
          dsimp only at p
          by_cases hl : s.length + t.length ≤ 10000000
          · rw [if_pos hl] at p
            cases sx with
            | d hx =>
              cases hx
              cases sy with
              | d hy => cases hy; exact .inr (.inr (.inr ⟨_, _, rfl, rfl, big_le hl, Post.ok p rp (.d (.str _))⟩))
          · rw [if_neg hl] at p; exact p.elim
        | _ => exact lst p
      | tup xs =>
        cases d' with
        | tup ys =>
          dsimp only at p
          by_cases hl : xs.length + ys.length ≤ 10000000
          · rw [if_pos hl] at p
            cases sx with
            | d hx =>
              cases hx with
              | @tup a vs _ h1 d1 =>
                cases sy with
                | d hy =>
                  cases hy with
                  | @tup b ws _ h2 d2 =>
                    refine .inr (.inl ⟨a, b, vs, ws, rfl, rfl, ex_t rp.ex h1, ex_t rp.ex h2, by rw [d1.length, d2.length]; exact big_le hl, fun z => ?_, fun _ z => ?_, fun _ _ q hq => ?_⟩)
                    · have z' : xs = [] := List.eq_nil_of_length_eq_zero (by rw [← d1.length, z]; rfl)
                      subst z'
                      exact Post.ok p rp (.d (.tup h2 d2))
                    · have z' : ys = [] := List.eq_nil_of_length_eq_zero (by rw [← d2.length, z]; rfl)
                      subst z'
                      rw [List.append_nil] at p
                      exact Post.ok p rp (.d (.tup h1 d1))
                    · exact p μ _ _ _ (Ext.new (rp.fresh hq)) (rp.new hq) (.d (.tup (SqT.of upd_same) ((d1.append d2).mono (Ext.new (μ := μ) (rp.fresh hq)).f)))
          · rw [if_neg hl] at p; exact p.elim
        | _ => exact lst p
      | _ => exact lst p
theorem ed_addX (h1 : ED X W a f1) (h2 : ED X W b f2) : ED X W (.BinOp a .Add b pos) (bin2 f1 f2 addS) := ed_bin (fun _ _ p q => pe_op op_addX p q) h1 h2 opd_addX
/-! ### chains -/
def chD (o1 o2 : S → S → G → R S) (f1 f2 f3 : DE S) : DE S := fun ρ g => (f1 ρ g).bind fun x g1 => (f2 ρ g1).bind fun y g2 => (o1 x y g2).bind fun z g3 => match z with
  | .d (.bl true) => (f3 ρ g3).bind fun w g4 => o2 y w g4
  | .d (.bl false) => .ok (.d (.bl false)) g3
  | _ => .bad
theorem ch_ok {r r' : R2} {o1 o2 : S → S → G → R S} (hop : OpD X.K r o1) (hop' : OpD X.K r' o2) {σ : St} {H : Hp} {Q : VK} {μ : Mp} {F : Hp} {g : G} {ρ : Env} (r0 : Rp X.K μ F H g) (re : Re X.K μ F σ ρ) (q : Post (relS X.K) X.K μ F (XW W σ) (chD o1 o2 f1 f2 f3 ρ g) Q) :
    tChain r r' (tD X.K W f1) (tD X.K W f2) (tD X.K W f3) σ H Q := by
  obtain ⟨μ0, F0, g0, ρ0, r0, re0, p0⟩ := tD.step r0 re q
  refine ⟨μ0, F0, g0, ρ0, r0, re0, p0.imp fun x H1 ⟨μ1, F1, a1, g1, r1, re1, s1, p1⟩ => ?_⟩
  refine ⟨μ1, F1, g1, ρ, r1, re1, ?_⟩
  refine p1.step.imp fun y H2 ⟨μ3, F3, b3, g3, x3, r3, s3, p3⟩ => hop μ3 F3 H2 g3 _ x y a1 b3 _ r3 (s1.mono x3) s3 ((Post.step (rel := relS X.K) p3).imp fun z H4 ⟨μ4, F4, z4, g4, x4, r4, s4, p4⟩ => ?_)
  cases z4 with
  | c n => exact p4.elim
  | i n => exact p4.elim
  | d d =>
    cases d <;> first | exact False.elim p4 | skip
    rename_i k
    cases s4 with
    | d s4 =>
      cases s4
      refine ⟨k, rfl, ?_⟩
      cases k with
      | false => exact Post.ok p4 r4 (.d (.bl _))
      | true =>
        refine ⟨μ4, F4, g4, ρ, r4, (re1.mono x3).mono x4, ?_⟩
        exact (Post.step (rel := relS X.K) p4).imp fun w H5 ⟨μ5, F5, w5, g5, x5, r5, s5, p5⟩ => hop' μ5 F5 H5 g5 _ y w b3 w5 _ r5 ((s3.mono x4).mono x5) s5 p5
theorem ed_chain {op op' : CmpOp} {r r' : R2} {o1 o2 : S → S → G → R S} (ho : OpR X (compareOp op) r) (ho' : OpR X (compareOp op') r') (hop : OpD X.K r o1) (hop' : OpD X.K r' o2) (h1 : ED X W a f1) (h2 : ED X W b f2) (h3 : ED X W c f3)
    (hm : lastMarks [op, op'] [b, c] = false := by with_unfolding_all rfl) : ED X W (.Compare a [op, op'] [b, c] pos) (chD o1 o2 f1 f2 f3) :=
  pe_weak (pe_chain ho ho' h1 h2 h3 hm) fun σ H Q ⟨μ, F, g, ρ, r, re, q⟩ => ch_ok hop hop' r re q
theorem td_chain {op op' : CmpOp} {r r' : R2} {o1 o2 : S → S → G → R S} (ho : OpR X (compareOp op) r) (ho' : OpR X (compareOp op') r') (hop : OpD X.K r o1) (hop' : OpD X.K r' o2) (h1 : ED X W a f1) (h2 : ED X W b f2) (h3 : ED X W c f3)
    (hm : lastMarks [op, op'] [b, c] = false := by with_unfolding_all rfl) : TD X W (.Compare a [op, op'] [b, c] pos) (asB (chD o1 o2 f1 f2 f3)) :=
  pt_weak (pt_chain ho ho' h1 h2 h3 hm) fun σ H Q ⟨μ, F, g, ρ, r, re, q⟩ => ch_ok hop hop' r re (asB_post q)
/-! ### in, is None -/
def toV : D → Option V
  | .non => some .non
  | .bl b => some (.bl b)
  | .int i => some (.int i)
  | .str x => some (.str x)
  | _ => none
def toVL : List D → Option (List V)
  | [] => some []
  | d :: ds => match toV d, toVL ds with
    | some x, some xs => some (x :: xs)
    | _, _ => none
theorem toV_ok {K : PySem.W.Frag} {F : Hp} {v w : V} {d : D} (h : Dn K F v d) (e : toV d = some w) : v = w ∧ flatV v = true := by
  cases h <;> first | (cases e; exact ⟨rfl, rfl⟩) | (cases e; done)
theorem toVL_ok {K : PySem.W.Frag} {F : Hp} : ∀ {vs ws : List V} {ds : List D}, DnL K F vs ds → toVL ds = some ws → vs = ws ∧ vs.all flatV = true
  | _, _, _, .nil, e => by cases e; exact ⟨rfl, rfl⟩
  | _, ws, d :: ds, .cons h t, e => by
    unfold toVL at e
    cases e1 : toV d with
    | none => rw [e1] at e; cases e
    | some x =>
      cases e2 : toVL ds with
      | none => rw [e1, e2] at e; cases e
      | some xs =>
        rw [e1, e2] at e; cases e
        obtain ⟨rfl, h1⟩ := toV_ok h e1
        obtain ⟨rfl, h2⟩ := toVL_ok t e2
        exact ⟨rfl, by rw [List.all_cons, h1, h2]; rfl⟩
/-- x in xs: flat things -/
def inF (neg : Bool) : S → S → G → R S := fun a b g => match snap g a, readL g b with
  | some x, some ds => match toV x, toVL ds with
    | some v, some ws => .ok (.d (.bl (if neg then !inV v ws else inV v ws))) g
    | _, _ => .bad
  | _, _ => .bad
theorem opd_in {K : PySem.W.Frag} {neg : Bool} : OpD K (rIn K neg) (inF neg) := by
  intro μ F H g E x y a b Q rp sx sy p
  unfold inF at p
  cases e1 : snap g a with
  | none => rw [e1] at p; exact p.elim
  | some d =>
    cases e2 : readL g b with
    | none => rw [e1, e2] at p; exact p.elim
    | some ds =>
      rw [e1, e2] at p
      dsimp only at p
      cases e3 : toV d with
      | none => rw [e3] at p; exact p.elim
      | some v =>
        cases e4 : toVL ds with
        | none => rw [e3, e4] at p; exact p.elim
        | some ws =>
          rw [e3, e4] at p
          obtain ⟨rfl, h1⟩ := toV_ok (snap_ok rp sx e1) e3
          obtain ⟨t, xs, rfl, q, hd⟩ := readL_ok rp sy e2
          obtain ⟨rfl, h2⟩ := toVL_ok hd e4
          exact ⟨t, xs, rfl, lt_or rp.ex q, h1, h2, Post.ok p rp (.d (.bl _))⟩
def isNF (neg : Bool) : S → S → G → R S := fun a b g => match b with
  | .d .non => match a with
    | .d .non => .ok (.d (.bl (!neg))) g
    | _ => .ok (.d (.bl neg)) g
  | _ => .bad
theorem opd_isN {K : PySem.W.Frag} : OpD K (fun x y H Q => y = .non ∧ Q (.bl (decide (x = .non))) H) (isNF false) := by
  intro μ F H g E x y a b Q rp sx sy p
  unfold isNF at p
  cases sy with
  | c => exact p.elim
  | i => exact p.elim
  | d hy =>
    cases hy <;> first | exact False.elim p | skip
    refine ⟨rfl, ?_⟩
    cases sx with
    | c h => exact Post.ok p rp (.d (.bl _))
    | i h => exact Post.ok p rp (.d (.bl _))
    | d hx => cases hx <;> exact Post.ok p rp (.d (.bl _))
theorem opd_notN {K : PySem.W.Frag} : OpD K (fun x y H Q => y = .non ∧ Q (.bl (!decide (x = .non))) H) (isNF true) := by
  intro μ F H g E x y a b Q rp sx sy p
  unfold isNF at p
  cases sy with
  | c => exact p.elim
  | i => exact p.elim
  | d hy =>
    cases hy <;> first | exact False.elim p | skip
    refine ⟨rfl, ?_⟩
    cases sx with
    | c h => exact Post.ok p rp (.d (.bl _))
    | i h => exact Post.ok p rp (.d (.bl _))
    | d hx => cases hx <;> exact Post.ok p rp (.d (.bl _))
/-! ### isinstance -/
@[simp] def tyD : D → Option String
  | .non => some "NoneType"
  | .bl _ => some "bool"
  | .int _ => some "int"
  | .str _ => some "str"
  | .tup _ => some "tuple"
  | .lst _ => some "list"
  | .scr _ => some "list"
  | .dct _ => some "dict"
  | _ => none
theorem tyD_ok {K : PySem.W.Frag} {H : Hp} {v : V} {d : D} {T : String} (h : Dn K H v d) (e : tyD d = some T) : TyX K H v (.type T) := by
  cases h <;> first | (cases e; done) | skip
  · cases e; exact .base .non
  · cases e; exact .base (.bl _)
  · cases e; exact .base (.int _)
  · cases e; exact .base (.str _)
  · rename_i hq hd
    cases e
    rcases hq with (hq | ⟨o, hq⟩) | ⟨o, its, n, hq, hc, _⟩
    · exact .base (.tup hq)
    · exact .fTuple hq
    · exact .kTuple hq hc
  · rename_i hq hd
    cases e
    exact .base (.lst hq)
  · rename_i hq
    cases e
    rcases hq with (hq | ⟨o, hq⟩) | ⟨o, its, n, hq, hc, _⟩
    · exact .base (.lst hq)
    · exact .base (.frz hq)
    · exact .kList hq hc
  · rename_i hq hd
    cases e
    exact .base (.dK hq)
/-- the kinds that a program asks for -/
def isTy (T n : String) : Option Bool :=
  if n = "int" then some (T = "int" || T = "bool") else if n = "bool" ∨ n = "str" ∨ n = "list" ∨ n = "tuple" ∨ n = "dict" then some (T = n) else none
theorem kit_n {K : PySem.W.Frag} {T n : String} {b : Bool} (hT : T = "NoneType" ∨ T = "bool" ∨ T = "int" ∨ T = "str" ∨ T = "tuple" ∨ T = "list" ∨ T = "dict") (e : isTy T n = some b) : PySem.W.kitOne K (.type T) (.type n) = some b := by
  have hn : n = "int" ∨ n = "bool" ∨ n = "str" ∨ n = "list" ∨ n = "tuple" ∨ n = "dict" := by
    unfold isTy at e
    by_cases h1 : n = "int"
    · exact .inl h1
    · rw [if_neg h1] at e
      by_cases h2 : n = "bool" ∨ n = "str" ∨ n = "list" ∨ n = "tuple" ∨ n = "dict"
      · exact .inr h2
      · rw [if_neg h2] at e; cases e
  rcases hT with rfl | rfl | rfl | rfl | rfl | rfl | rfl <;> rcases hn with rfl | rfl | rfl | rfl | rfl | rfl <;>
    (have e' : b = _ := (Option.some.inj e).symm; subst e'; exact kit_ty (by decide +kernel))
theorem KC.mro {K : PySem.W.Frag} {C : Addr} (k : KC K C) (b : Value) : PySem.W.mroIn K C b = some (([.ref C, .type "object"] : List Value).contains b) := by
  obtain ⟨cd, h1, h2⟩ := k.cd
  unfold PySem.W.mroIn
  rw [h1, Option.bind_some, h2]
  rfl
theorem KC.isn {K : PySem.W.Frag} {C : Addr} (k : KC K C) {n : String} (e : n = "int" ∨ n = "bool" ∨ n = "str" ∨ n = "list" ∨ n = "tuple" ∨ n = "dict") : PySem.W.kitOne K (.ref C) (.type n) = some false := by
  have h1 : (Value.ref C == Value.type n) = false := rfl
  have h2 : PySem.W.kitMeta n = true := by rcases e with rfl | rfl | rfl | rfl | rfl | rfl <;> decide +kernel
  unfold PySem.W.kitOne
  rw [h1, if_neg Bool.false_ne_true]
  unfold PySem.W.kitCls
  dsimp only
  rw [if_pos h2]
  show PySem.W.mroIn K C (.type n) = some false
  rw [k.mro]
  rcases e with rfl | rfl | rfl | rfl | rfl | rfl <;> rfl
theorem KC.isc {K : PySem.W.Frag} {C C' : Addr} (k : KC K C) (k' : KC K C') : PySem.W.kitOne K (.ref C') (.ref C) = some (decide (C' = C)) := by
  unfold PySem.W.kitOne
  by_cases h : C' = C
  · subst h; simp
  · have h1 : (Value.ref C' == Value.ref C) = false := by simp [h]
    rw [h1, if_neg Bool.false_ne_true]
    unfold PySem.W.kitCls
    dsimp only
    obtain ⟨cd, h2, h3⟩ := k.cd
    have h4 : ((PySem.W.clsIn K C).isSome && PySem.W.typeIn K (.ref C) == some (.type "type")) = true := by rw [h2, k.ty]; rfl
    rw [if_pos h4]
    show PySem.W.mroIn K C' (.ref C) = _
    rw [k'.mro]
    have : (([.ref C', .type "object"] : List Value).contains (.ref C)) = decide (C' = C) := by
      simp [List.contains_cons, h, Ne.symm h, eq_comm]
    rw [this]
theorem KC.ist {K : PySem.W.Frag} {C : Addr} (k : KC K C) {T : String} (hT : T = "NoneType" ∨ T = "bool" ∨ T = "int" ∨ T = "str" ∨ T = "tuple" ∨ T = "list" ∨ T = "dict") : PySem.W.kitOne K (.type T) (.ref C) = some false := by
  have h1 : (Value.type T == Value.ref C) = false := rfl
  unfold PySem.W.kitOne
  rw [h1, if_neg Bool.false_ne_true]
  unfold PySem.W.kitCls
  dsimp only
  obtain ⟨cd, h2, h3⟩ := k.cd
  have h4 : ((PySem.W.clsIn K C).isSome && PySem.W.typeIn K (.ref C) == some (.type "type")) = true := by rw [h2, k.ty]; rfl
  rw [if_pos h4]
  rcases hT with rfl | rfl | rfl | rfl | rfl | rfl | rfl <;> (unfold PySem.W.subIn; kernel_rfl)
/-- isinstance(x, T), a built-in kind; isinstance(x, C), a plain class of the program (c) -/
def isiS (c : Addr → Bool) : List S → G → R S := fun ss g => match ss with
  | [s, .d k] => match snap g s with
    | some d => match k with
      | .typ n => match tyD d with
        | some T => match isTy T n with
          | some b => .ok (.d (.bl b)) g
          | none => .bad
        | none => match d with
          | .ins _ _ => match isTy "NoneType" n with
            | some _ => .ok (.d (.bl false)) g
            | none => .bad
          | _ => .bad
      | .adr C => if c C then (match tyD d with
        | some _ => .ok (.d (.bl false)) g
        | none => match d with
          | .ins C' _ => .ok (.d (.bl (decide (C' = C)))) g
          | _ => .bad) else .bad
      | _ => .bad
    | none => .bad
  | _ => .bad
theorem tyD_seven {d : D} {T : String} (e : tyD d = some T) : T = "NoneType" ∨ T = "bool" ∨ T = "int" ∨ T = "str" ∨ T = "tuple" ∨ T = "list" ∨ T = "dict" := by
  cases d <;> first | (cases e; done) | (cases e; simp)
theorem isTy_six {T n : String} {b : Bool} (e : isTy T n = some b) : n = "int" ∨ n = "bool" ∨ n = "str" ∨ n = "list" ∨ n = "tuple" ∨ n = "dict" := by
  unfold isTy at e
  by_cases h1 : n = "int"
  · exact .inl h1
  · rw [if_neg h1] at e
    by_cases h2 : n = "bool" ∨ n = "str" ∨ n = "list" ∨ n = "tuple" ∨ n = "dict"
    · exact .inr h2
    · rw [if_neg h2] at e; cases e
theorem ins_ty {K : PySem.W.Frag} {H : Hp} {v : V} {C : Addr} {gs : List (Str × D)} (h : Dn K H v (.ins C gs)) : TyX K H v (.ref C) ∧ KC K C := by
  cases h with
  | ins k h1 h2 => exact ⟨.base (.ins h1 k.cl k.ha k.hn k.htk (by rw [k.mro]; simp)), k⟩
theorem cd_isi {K : PySem.W.Frag} {c : Addr → Bool} (hc : ∀ C, c C = true → KC K C) : CallD K (rIsi K) (isiS c) := by
  intro μ F H g E vs ss Q rp sv p
  unfold isiS at p
  split at p
  · rename_i s k
    cases sv with
    | cons s1 t =>
      cases t with
      | cons s2 t =>
        cases t
        cases s2 with
        | d hk =>
          cases e1 : snap g s with
          | none => rw [e1] at p; exact p.elim
          | some d =>
            rw [e1] at p
            have hd := snap_ok rp s1 e1
            cases hk <;> first | exact False.elim p | skip
            · rename_i n
              dsimp only at p
              cases e2 : tyD d with
              | some T =>
                rw [e2] at p
                dsimp only at p
                cases e3 : isTy T n with
                | none => rw [e3] at p; exact p.elim
                | some b =>
                  rw [e3] at p
                  exact ⟨_, _, _, _, b, rfl, .ty n, tyD_ok hd e2, kit_n (tyD_seven e2) e3, Post.ok p rp (.d (.bl _))⟩
              | none =>
                rw [e2] at p
                dsimp only at p
                cases d <;> first | exact False.elim p | skip
                dsimp only at p
                cases e3 : isTy "NoneType" n with
                | none => rw [e3] at p; exact p.elim
                | some b =>
                  rw [e3] at p
                  obtain ⟨h1, h2⟩ := ins_ty hd
                  exact ⟨_, _, _, _, false, rfl, .ty n, h1, h2.isn (isTy_six e3), Post.ok p rp (.d (.bl _))⟩
            · rename_i C
              dsimp only at p
              by_cases hC : c C = true
              · rw [if_pos hC] at p
                cases e2 : tyD d with
                | some T =>
                  rw [e2] at p
                  exact ⟨_, _, _, _, false, rfl, .own C, tyD_ok hd e2, (hc C hC).ist (tyD_seven e2), Post.ok p rp (.d (.bl _))⟩
                | none =>
                  rw [e2] at p
                  dsimp only at p
                  cases d <;> first | exact False.elim p | skip
                  obtain ⟨h1, h2⟩ := ins_ty hd
                  exact ⟨_, _, _, _, _, rfl, .own C, h1, (hc C hC).isc h2, Post.ok p rp (.d (.bl _))⟩
              · rw [if_neg hC] at p; exact p.elim
  · exact p.elim
/-! ### fields -/
@[simp] def un1D (op : S → G → R S) (f : DE S) : DE S := fun ρ g => (f ρ g).bind op
@[simp] def fldS (c : Addr) (n : Str) : S → G → R S := fun s g => match snap g s with
  | some (.ins C gs) => if C = c then (match gs.lookup n with
    | some x => .ok (.d x) g
    | none => .bad) else .bad
  | _ => .bad
/-- snap of an instance: what it holds is frozen data -/
theorem snap_ins {K : PySem.W.Frag} {μ : Mp} {F H : Hp} {g : G} (r : Rp K μ F H g) {v : V} {s : S} {C : Addr} {gs : List (Str × D)} (h : Sn K μ F v s) (e : snap g s = some (.ins C gs)) : ∃ a dx fs, v = .ref a ∧ H a = some (.ins C dx fs) ∧ DnF K F fs gs ∧ KC K C := by
  cases h with
  | d h =>
    cases e
    cases h with
    | ins k h1 h2 => exact ⟨_, _, _, rfl, r.ex _ _ h1, h2, k⟩
  | @c n a l h =>
    obtain ⟨c, q, ok⟩ := r.cell h
    have e' : snapC g[n]? = some (.ins C gs) := e
    rw [q] at e'
    cases c <;> first | (cases e'; done) | skip
    obtain ⟨b, z, _, dx, ys, h1, h2, h3⟩ := ok; cases z; cases e'
    exact ⟨a, dx, ys, rfl, h1, h2, h3⟩
  | @i n a b l h =>
    have e' : snapI g[n]? = some (.ins C gs) := e
    unfold snapI at e'
    split at e' <;> cases e'
theorem ed_fld {c : Addr} {n : Str} (hn : NoAttr X.K c n) (h : ED X W e f) (hb : attributeBase e n X.env (eval e X.env) = eval e X.env := by rfl) : ED X W (.Attribute e n pos) (un1D (fldS c n) f) :=
  pe_weak (pe_fld h hb) fun σ H Q ⟨μ, F, g, ρ, r, re, q⟩ => by
    obtain ⟨μ0, F0, g0, ρ0, r0, re0, p0⟩ := tD.step r re q
    refine ⟨μ0, F0, g0, ρ0, r0, re0, p0.imp fun x H1 ⟨μ1, F1, a1, g1, r1, re1, s1, p1⟩ => ?_⟩
    unfold fldS at p1
    split at p1
    · rename_i C gs e1
      by_cases hC : C = c
      · rw [if_pos hC] at p1
        split at p1
        · rename_i d e2
          obtain ⟨a, dx, fs, rfl, h1, h2, h3⟩ := snap_ins r1 s1 e1
          obtain ⟨v, h4, h5⟩ := h2.lookup e2
          exact ⟨a, C, dx, fs, v, rfl, h1, h3.cl, hC ▸ hn, h4, Post.ok p1 r1 (.d h5)⟩
        · exact p1.elim
      · rw [if_neg hC] at p1; exact p1.elim
    · exact p1.elim
def putD (f : Str) (v : D) : List (Str × D) → List (Str × D)
  | [] => [(f, v)]
  | (g, x) :: r => if g = f then (g, v) :: r else (g, x) :: putD f v r
theorem DnF.put {K : PySem.W.Frag} {F : Hp} {f : Str} {v : V} {d : D} (h : Dn K F v d) : ∀ {fs : List (Str × V)} {gs : List (Str × D)}, DnF K F fs gs → DnF K F (putF f v fs) (putD f d gs)
  | _, _, .nil => .cons h .nil
  | (k, w) :: fs, (_, x) :: gs, .cons q t => by
    unfold putF putD
    by_cases e : k = f
    · rw [if_pos e, if_pos e]; exact .cons h t
    · rw [if_neg e, if_neg e]; exact .cons q (DnF.put h t)
theorem postOx {α β : Type} {rel : Mp → Hp → β → α → Prop} {K : PySem.W.Frag} {μ : Mp} {F : Hp} {W : WX} {σ : St} {ρ : Env} {r : R α} {k : α → G → O} {D : Ends} (e : Re K μ F σ ρ) (h : PostS K μ F W D (r.toO ρ k)) :
    Post rel K μ F (XW W σ) r (fun v H => ∃ μ' F' a g, Ext μ F μ' F' ∧ Rp K μ' F' H g ∧ Re K μ' F' σ ρ ∧ rel μ' F' v a ∧ PostS K μ' F' W D (k a g)) := by
  cases r with
  | ok a g => exact fun μ' F' H' v x y z => ⟨μ', F', a, g, x, y, e.mono x, z, PostS.ext x h⟩
  | exc C fs g => exact fun μ' F' H' d x y z => h μ' F' H' σ d x y (e.mono x) z
  | bad => exact h
/-- o.f = e, o a cell -/
def sfldS (c : Addr) (n : Str) (fo fv : DE S) : DS := fun ρ g => (fv ρ g).toO ρ fun v g1 => (fo ρ g1).toO ρ fun o g2 => match v, o with
  | .d x, .c m => match g2[m]? with
    | some (.ins C gs) => if C = c ∧ gs.length < 900 then .nx ρ (g2.set m (.ins C (putD n x gs))) else .bad
    | _ => .bad
  | _, _ => .bad
theorem sd_fld {c : Addr} {n : Str} {fo fv : DE S} {p' : Pos} {value : Expr} (hn : NoAttr X.K c n) (ho : ED X W o fo) (hv : ED X W value fv) (hs : swapsWith value (some (.Attribute o n p')) pos.line X.env = pure false := by rfl) : SD X W (.Assign [.Attribute o n p'] value pos) (sfldS c n fo fv) :=
  ps_weak (ps_fld ho hv hs) fun D σ H ⟨μ, F, g, ρ, r, re, q⟩ => by
    obtain ⟨μ0, F0, g0, ρ0, r0, re0, p0⟩ := tD.stepS r re q
    refine ⟨μ0, F0, g0, ρ0, r0, re0, p0.imp fun y H1 ⟨μ1, F1, a1, g1, r1, re1, s1, p1⟩ => ?_⟩
    refine ⟨μ1, F1, g1, ρ, r1, re1, (postOx (rel := relS X.K) re1 p1).imp fun x H2 ⟨μ2, F2, a2, g2, x2, r2, re2, s2, p2⟩ => ?_⟩
    cases a1 with
    | c m => exact p2.elim
    | i m => exact p2.elim
    | d d =>
      cases a2 with
      | d _ => exact p2.elim
      | i _ => exact p2.elim
      | c m =>
        dsimp only at p2
        cases s2 with
        | @c _ a l s2 =>
          obtain ⟨cc, q, ok⟩ := r2.cell s2
          rw [q] at p2
          cases cc <;> first | exact False.elim p2 | skip
          rename_i C gs
          dsimp only at p2
          obtain ⟨b, z, hF, dx, fs, h1, h2, h3⟩ := id ok
          cases z
          by_cases hC : C = c ∧ gs.length < 900
          · rw [if_pos hC] at p2
            refine ⟨a, C, dx, fs, rfl, h1, h3.cl, hC.1 ▸ hn, by rw [h2.length]; omega, ?_⟩
            refine p2 μ2 F2 _ σ (.refl _ _) ?_ re2
            have sd : Dn X.K F2 y d := by
              cases s1 with
              | d s1 => exact s1.mono x2.f
            exact r2.write s2 q (by simp) (by intro z; cases z) ⟨a, rfl, hF, dx, _, upd_same, h2.put sd, h3⟩
          · rw [if_neg hC] at p2; exact p2.elim
/-! ### methods of lists -/
/-- a receiver that is a list, then the arguments, then op -/
def mthD (op : S → List S → G → R S) (f : DE S) (fl : DE (List S)) : DE S := fun ρ g => (f ρ g).bind fun s g1 => match readL g1 s with
  | none => .bad
  | some _ => (fl ρ g1).bind fun ss g2 => op s ss g2
def MtD (K : PySem.W.Frag) (r : V → List V → Hp → VK → Prop) (op : S → List S → G → R S) : Prop :=
  ∀ (μ : Mp) (F H : Hp) (g : G) (E : XK) (v : V) (vs : List V) (s : S) (ss : List S) (Q : VK), Rp K μ F H g → Sn K μ F v s → SnL K μ F vs ss → Post (relS K) K μ F E (op s ss g) Q → r v vs H Q
theorem ty_list {K : PySem.W.Frag} {μ : Mp} {F H : Hp} {g : G} (r : Rp K μ F H g) {v : V} {s : S} {ds : List D} (h : Sn K μ F v s) (e : readLL g s = some ds) : tyV K "list" v H := by
  obtain ⟨a, xs, rfl, q, _⟩ := readLL_ok r h e
  exact .inl ⟨rfl, xs, q⟩
def mthL (op : S → List S → G → R S) (f : DE S) (fl : DE (List S)) : DE S := fun ρ g => (f ρ g).bind fun s g1 => match readLL g1 s with
  | none => .bad
  | some _ => (fl ρ g1).bind fun ss g2 => op s ss g2
theorem ed_lm {id : String} {r : V → List V → Hp → VK → Prop} {op : S → List S → G → R S} {name : Str} {apos : Pos} (slot : Slot "list" name id) (hty : typeOf (.builtin id) = pure (.type "method_descriptor")) (hm : MtR X id r) (hop : MtD X.K r op) (ho : ED X W o f) (ha : LD X W (e :: es) fl)
    (hbase : attributeBase o name X.env (eval o X.env) = eval o X.env := by rfl)
    (hfew : ((backTo p (starEach (e :: es) X.env)).all (fun x => !x.1) && (backToKw p (keywordEach [] X.env)).all (fun x => x.1.isSome)
      && decide ((e :: es).length + ([] : List Keyword).length + (if ([] : List Keyword).isEmpty then 0 else 1) < 30)) = true := by rfl)
    (hline : (apos.endLine == p.line) = true := by rfl) (hs : starEach (e :: es) X.env = (false, eval e X.env) :: starEach es X.env := by rfl) (hplain : (backTo p (starEach es X.env)).any (·.1) = false := by rfl) :
    ED X W (.Call (.Attribute o name apos) (e :: es) [] p) (mthL op f fl) :=
  pe_weak (pe_bm PySem.F.plainAttrs_list slot hty hm ho ha hbase hfew hline hs hplain) fun σ H Q ⟨μ, F, g, ρ, r, re, q⟩ => by
    obtain ⟨μ0, F0, g0, ρ0, r0, re0, p0⟩ := tD.step r re q
    refine ⟨μ0, F0, g0, ρ0, r0, re0, p0.imp fun x H1 ⟨μ1, F1, a1, g1, r1, re1, s1, p1⟩ => ?_⟩
    dsimp only at p1
    cases e1 : readLL g1 a1 with
    | none => rw [e1] at p1; exact p1.elim
    | some ds =>
      rw [e1] at p1
      refine ⟨ty_list r1 s1 e1, μ1, F1, g1, ρ, r1, re1, (Post.step (rel := relL X.K) p1).imp fun vs H2 ⟨μ2, F2, a2, g2, x2, r2, s2, p2⟩ => ?_⟩
      exact hop μ2 F2 H2 g2 _ x vs a1 a2 Q r2 (s1.mono x2) s2 p2
theorem ed_lm0 {id : String} {r : V → List V → Hp → VK → Prop} {op : S → List S → G → R S} {name : Str} {apos : Pos} (slot : Slot "list" name id) (hty : typeOf (.builtin id) = pure (.type "method_descriptor")) (hm : MtR X id r) (hop : MtD X.K r op) (ho : ED X W o f)
    (hbase : attributeBase o name X.env (eval o X.env) = eval o X.env := by rfl) (hline : (apos.endLine == p.line) = true := by rfl) : ED X W (.Call (.Attribute o name apos) [] [] p) (mthL op f nilL) :=
  pe_weak (pe_bm0 PySem.F.plainAttrs_list slot hty hm ho hbase hline) fun σ H Q ⟨μ, F, g, ρ, r, re, q⟩ => by
    obtain ⟨μ0, F0, g0, ρ0, r0, re0, p0⟩ := tD.step r re q
    refine ⟨μ0, F0, g0, ρ0, r0, re0, p0.imp fun x H1 ⟨μ1, F1, a1, g1, r1, re1, s1, p1⟩ => ?_⟩
    dsimp only at p1
    cases e1 : readLL g1 a1 with
    | none => rw [e1] at p1; exact p1.elim
    | some ds =>
      rw [e1] at p1
      exact ⟨ty_list r1 s1 e1, hop μ1 F1 H1 g1 _ x [] a1 [] Q r1 s1 .nil p1⟩
def appS : S → List S → G → R S := fun s ss g => match s, ss with
  | .c n, [.d x] => match g[n]? with
    | some (.lst ds) => if ds.length < 10000000 then .ok (.d .non) (g.set n (.lst (ds ++ [x]))) else .bad
    | _ => .bad
  | _, _ => .bad
theorem md_app {K : PySem.W.Frag} : MtD K rAppend appS := by
  intro μ F H g E v vs s ss Q rp sv svs p
  unfold appS at p
  split at p
  · rename_i n x
    cases sv with
    | @c _ a l h =>
      obtain ⟨cc, q, ok⟩ := rp.cell h
      rw [q] at p
      cases cc <;> first | exact False.elim p | skip
      rename_i ds
      dsimp only at p
      obtain ⟨b, z, hF, xs, h1, h2⟩ := id ok
      cases z
      by_cases hl : ds.length < 10000000
      · rw [if_pos hl] at p
        cases svs with
        | cons s1 t =>
          cases t
          cases s1 with
          | d hx =>
            refine ⟨a, xs, _, rfl, rfl, h1, by rw [h2.length]; exact Nat.lt_of_lt_of_le hl (by decide), ?_⟩
            exact p μ F _ _ (.refl _ _) (rp.write h q (by simp) (by intro z; cases z) ⟨a, rfl, hF, _, upd_same, h2.append (.cons hx .nil)⟩) (.d .non)
      · rw [if_neg hl] at p; exact p.elim
  · exact p.elim
/-- xs.extend(ys) -/
def extS : S → List S → G → R S := fun s ss g => match s, ss with
  | .c n, [t] => match g[n]?, readT g t with
    | some (.lst ds), some es => if ds.length + es.length ≤ 10000000 then .ok (.d .non) (g.set n (.lst (ds ++ es))) else .bad
    | _, _ => .bad
  | _, _ => .bad
theorem md_ext {K : PySem.W.Frag} : MtD K rExtend extS := by
  intro μ F H g E v vs s ss Q rp sv svs p
  unfold extS at p
  split at p
  · rename_i n t
    cases sv with
    | @c _ a l h =>
      obtain ⟨cc, q, ok⟩ := rp.cell h
      rw [q] at p
      cases svs with
      | cons s1 t' =>
        cases t'
        cases e : readT g t with
        | none => rw [e] at p; cases cc <;> exact p.elim
        | some es =>
          rw [e] at p
          cases cc <;> first | exact False.elim p | skip
          rename_i ds
          dsimp only at p
          obtain ⟨b, z, hF, xs, h1, h2⟩ := id ok
          cases z
          obtain ⟨l2, ws, rfl, h3, h4⟩ := readT_ok rp s1 e
          by_cases hl : ds.length + es.length ≤ 10000000
          · rw [if_pos hl] at p
            refine ⟨a, l2, xs, ws, rfl, rfl, h1, h3, by rw [h2.length, h4.length]; exact big_le hl, ?_⟩
            exact p μ F _ _ (.refl _ _) (rp.write h q (by simp) (by intro z; cases z) ⟨a, rfl, hF, _, upd_same, h2.append h4⟩) (.d .non)
          · rw [if_neg hl] at p; exact p.elim
  · exact p.elim
/-- xs.pop() -/
def popS : S → List S → G → R S := fun s ss g => match s, ss with
  | .c n, [] => match g[n]? with
    | some (.lst ds) => match ds[ds.length - 1]? with
      | some x => .ok (.d x) (g.set n (.lst ds.dropLast))
      | none => .bad
    | _ => .bad
  | _, _ => .bad
theorem DnL.dropLast {K : PySem.W.Frag} {F : Hp} {vs : List V} {ds : List D} (h : DnL K F vs ds) : DnL K F vs.dropLast ds.dropLast := by
  rw [List.dropLast_eq_take, List.dropLast_eq_take, h.length]
  exact h.take _
theorem md_pop {K : PySem.W.Frag} : MtD K rPop popS := by
  intro μ F H g E v vs s ss Q rp sv svs p
  unfold popS at p
  split at p
  · rename_i n
    cases sv with
    | @c _ a l h =>
      obtain ⟨cc, q, ok⟩ := rp.cell h
      rw [q] at p
      cases cc <;> first | exact False.elim p | skip
      rename_i ds
      dsimp only at p
      obtain ⟨b, z, hF, xs, h1, h2⟩ := id ok
      cases z
      cases svs
      cases e : ds[ds.length - 1]? with
      | none => rw [e] at p; exact p.elim
      | some x =>
        rw [e] at p
        obtain ⟨y, h3, h4⟩ := h2.get e
        refine ⟨a, xs, y, rfl, rfl, h1, by rw [h2.length]; exact h3, ?_⟩
        exact p μ F _ _ (.refl _ _) (rp.write h q (by simp) (by intro z; cases z) ⟨a, rfl, hF, _, upd_same, h2.dropLast⟩) (.d h4)
  · exact p.elim
theorem DnL.erase {K : PySem.W.Frag} {F : Hp} : ∀ {vs : List V} {ds : List D} (i : Nat), DnL K F vs ds → DnL K F (vs.eraseIdx i) (ds.eraseIdx i)
  | _, _, _, .nil => .nil
  | _, _, 0, .cons _ t => t
  | _, _, i + 1, .cons h t => .cons h (DnL.erase i t)
theorem erase_map (cs : List Int) (k : Nat) : (cs.map V.int).eraseIdx k = (cs.eraseIdx k).map V.int := by
  induction cs generalizing k with
  | nil => rfl
  | cons c cs ih =>
    cases k with
    | zero => rfl
    | succ k => simp [List.eraseIdx, ih]
/-- xs.pop(i) -/
noncomputable def popIS : S → List S → G → R S := fun s ss g => match ss with
  | [.d (.int i)] => if inR i then (match s with
    | .c n => match g[n]? with
      | some (.lst ds) => match seqIndex? i ds.length with
        | some k => match ds[k]? with
          | some x => .ok (.d x) (g.set n (.lst (ds.eraseIdx k)))
          | none => .bad
        | none => .bad
      | _ => .bad
    | .i n => match g[n]? with
      | some (.tp pre cs post) => match seqIndex? i cs.length with
        | some k => match cs[k]? with
          | some x => .ok (.d (.int x)) (g.set n (.tp pre (cs.eraseIdx k) post))
          | none => .bad
        | none => .bad
      | _ => .bad
    | _ => .bad) else .bad
  | _ => .bad
theorem md_popI {K : PySem.W.Frag} : MtD K rPopAt popIS := by
  intro μ F H g E v vs s ss Q rp sv svs p
  unfold popIS at p
  split at p
  · rename_i i
    by_cases hi : inR i = true
    · rw [if_pos hi] at p
      obtain ⟨b1, b2⟩ := inR_iff.mp hi
      have b1' : -(2 ^ 63) ≤ i := by omega
      have b2' : i < 2 ^ 63 := by omega
      cases svs with
      | cons s1 t' =>
        cases t'
        cases s1 with
        | d s1 =>
          cases s1
          cases sv with
          | d h => exact p.elim
          | @c n a l h =>
            dsimp only at p
            obtain ⟨cc, q, ok⟩ := rp.cell h
            rw [q] at p
            cases cc <;> first | exact False.elim p | skip
            rename_i ds
            dsimp only at p
            obtain ⟨b, z, hF, xs, h1, h2⟩ := id ok
            cases z
            cases e1 : seqIndex? i ds.length with
            | none => rw [e1] at p; exact p.elim
            | some k =>
              rw [e1] at p
              dsimp only at p
              cases e : ds[k]? with
              | none => rw [e] at p; exact p.elim
              | some x =>
                rw [e] at p
                obtain ⟨y, h3, h4⟩ := h2.get e
                refine ⟨a, xs, i, k, y, rfl, rfl, h1, b1', b2', by rw [h2.length]; exact e1, h3, ?_⟩
                exact p μ F _ _ (.refl _ _) (rp.write h q (by simp) (by intro z; cases z) ⟨a, rfl, hF, _, upd_same, h2.erase k⟩) (.d h4)
          | @i n a b l h =>
            dsimp only at p
            obtain ⟨cc, q, ok⟩ := rp.cell h
            rw [q] at p
            cases cc <;> first | exact False.elim p | skip
            rename_i pre cs post
            dsimp only at p
            obtain ⟨a', b', z, hne, hF, hF', xs, ys, h1, h2, h3, h4⟩ := id ok
            cases z
            cases e1 : seqIndex? i cs.length with
            | none => rw [e1] at p; exact p.elim
            | some k =>
              rw [e1] at p
              dsimp only at p
              cases e : cs[k]? with
              | none => rw [e] at p; exact p.elim
              | some x =>
                rw [e] at p
                refine ⟨b, cs.map V.int, i, k, .int x, rfl, rfl, h4, b1', b2', by rw [List.length_map]; exact e1, by rw [List.getElem?_map, e]; rfl, ?_⟩
                refine p μ F _ _ (.refl _ _) (rp.write h q (by simp) (by intro z; cases z) ⟨a, b, rfl, hne, hF, hF', xs, ys, by rw [upd_ne hne]; exact h1, h2, h3, ?_⟩) (.d (.int _))
                rw [upd_same, erase_map]
    · rw [if_neg hi] at p; exact p.elim
  · exact p.elim
/-! ### o[i] = e -/
theorem DnL.set {K : PySem.W.Frag} {F : Hp} {v : V} {d : D} (h : Dn K F v d) : ∀ {vs : List V} {ds : List D} (i : Nat), DnL K F vs ds → DnL K F (vs.set i v) (ds.set i d)
  | _, _, _, .nil => .nil
  | _, _, 0, .cons _ t => .cons h t
  | _, _, i + 1, .cons q t => .cons q (DnL.set h i t)
def putS : S → S → S → G → Option G := fun v o i g => match v, i with
  | .d x, .d (.int k) => match o with
    | .c n => match g[n]? with
      | some (.lst ds) => match ixN ds.length k with
        | some j => some (g.set n (.lst (ds.set j x)))
        | none => none
      | some (.tp pre cs post) => match ixN (pre.length + 1 + post.length) k with
        | some j => if j < pre.length then some (g.set n (.tp (pre.set j x) cs post)) else if j = pre.length then none else some (g.set n (.tp pre cs (post.set (j - pre.length - 1) x)))
        | none => none
      | _ => none
    | .i n => match g[n]?, x with
      | some (.tp pre cs post), .int y => match ixN cs.length k with
        | some j => some (g.set n (.tp pre (cs.set j y) post))
        | none => none
      | _, _ => none
    | _ => none
  | _, _ => none
theorem put_ok {K : PySem.W.Frag} {μ : Mp} {F H : Hp} {g g' : G} {v o i : V} {sv so si : S} {Q : Hp → Prop} (rp : Rp K μ F H g) (hv : Sn K μ F v sv) (ho : Sn K μ F o so) (hi : Sn K μ F i si) (e : putS sv so si g = some g') (k : ∀ H', Rp K μ F H' g' → Q H') : rSetL o i v H Q := by
  unfold putS at e
  split at e
  · rename_i x j
    cases hv with
    | d hx =>
      cases hi with
      | d hi =>
        cases hi
        cases ho with
        | d h => cases e
        | @c n a l h =>
          dsimp only at e
          obtain ⟨cc, q, ok⟩ := rp.cell h
          rw [q] at e
          cases cc <;> first | (cases e; done) | skip
          · rename_i ds
            dsimp only at e
            obtain ⟨b, z, hF, xs, h1, h2⟩ := id ok
            cases z
            cases e1 : ixN ds.length j with
            | none => rw [e1] at e; cases e
            | some m =>
              rw [e1] at e
              cases e
              exact ⟨a, xs, j, m, rfl, rfl, h1, by rw [h2.length]; exact e1, k _ (rp.write h q (by simp) (by intro z; cases z) ⟨a, rfl, hF, _, upd_same, h2.set hx m⟩)⟩
          · rename_i pre cs post
            dsimp only at e
            obtain ⟨a', b', z, hne, hF, hF', xs, ys, h1, h2, h3, h4⟩ := id ok
            cases z
            have len : (xs ++ V.ref b' :: ys).length = pre.length + 1 + post.length := by
              rw [List.length_append, List.length_cons, h2.length, h3.length]; omega
            cases e1 : ixN (pre.length + 1 + post.length) j with
            | none => rw [e1] at e; cases e
            | some m =>
              rw [e1] at e
              dsimp only at e
              by_cases c1 : m < pre.length
              · rw [if_pos c1] at e
                cases e
                refine ⟨a, _, j, m, rfl, rfl, h1, by rw [len]; exact e1, k _ (rp.write h q (by simp) (by intro z; cases z) ⟨a, b', rfl, hne, hF, hF', xs.set m v, ys, ?_, h2.set hx m, h3, by rw [upd_ne (Ne.symm hne)]; exact h4⟩)⟩
                rw [upd_same, List.set_append_left _ _ (by rw [h2.length]; exact c1)]
              · rw [if_neg c1] at e
                by_cases c2 : m = pre.length
                · rw [if_pos c2] at e; cases e
                · rw [if_neg c2] at e
                  cases e
                  refine ⟨a, _, j, m, rfl, rfl, h1, by rw [len]; exact e1, k _ (rp.write h q (by simp) (by intro z; cases z) ⟨a, b', rfl, hne, hF, hF', xs, ys.set (m - pre.length - 1) v, ?_, h2, h3.set hx _, by rw [upd_ne (Ne.symm hne)]; exact h4⟩)⟩
                  rw [upd_same, List.set_append_right _ _ (by rw [h2.length]; omega), h2.length]
                  have : m - pre.length = (m - pre.length - 1) + 1 := by omega
                  rw [this, List.set_cons_succ]
                  simp
        | @i n a b l h =>
          dsimp only at e
          obtain ⟨cc, q, ok⟩ := rp.cell h
          rw [q] at e
          cases cc <;> first | (cases x <;> cases e; done) | skip
          rename_i pre cs post
          cases hx <;> first | (cases e; done) | skip
          rename_i y
          dsimp only at e
          obtain ⟨a', b', z, hne, hF, hF', xs, ys, h1, h2, h3, h4⟩ := id ok
          cases z
          cases e1 : ixN cs.length j with
          | none => rw [e1] at e; cases e
          | some m =>
            rw [e1] at e
            cases e
            refine ⟨b, cs.map V.int, j, m, rfl, rfl, h4, by rw [List.length_map]; exact e1, k _ (rp.write h q (by simp) (by intro z; cases z) ⟨a, b, rfl, hne, hF, hF', xs, ys, by rw [upd_ne hne]; exact h1, h2, h3, ?_⟩)⟩
            rw [upd_same, List.map_set]
  · cases e
def putSt (fo fi fv : DE S) : DS := fun ρ g => (fv ρ g).toO ρ fun v g1 => (fo ρ g1).toO ρ fun o g2 => (fi ρ g2).toO ρ fun i g3 => match putS v o i g3 with
  | some g4 => .nx ρ g4
  | none => .bad
theorem sd_put {i value : Expr} {fo fi fv : DE S} (ho : ED X W o fo) (hi : ED X W i fi) (hv : ED X W value fv) (hs : swapsWithSole [.Subscript o i p] value pos.line X.env = pure false := by rfl) (hw : swappedStores [.Subscript o i p] value X.env = pure none := by rfl)
    (h1 : (assignEach [.Subscript o i p] X.env).map (·.2) = [assign (.Subscript o i p) X.env] := by rfl)
    (ha : ∀ v, assign (.Subscript o i p) X.env v = (do
      let ov ← holding [v] (eval o X.env)
      let iv ← holding [v, ov] (eval i X.env)
      standAt p
      holding [v, ov, iv] (setItem ov iv v)
      release [v, ov, iv] []) := by intro _; rfl) : SD X W (.Assign [.Subscript o i p] value pos) (putSt fo fi fv) :=
  ps_weak (ps_asg hv (pg_sub ho hi set_list ha) hs hw h1) fun D σ H ⟨μ, F, g, ρ, r, re, q⟩ => by
    refine ⟨μ, F, g, ρ, r, re, (postOx (rel := relS X.K) re q).imp fun y H1 ⟨μ1, F1, a1, g1, x1, r1, re1, s1, p1⟩ => ?_⟩
    refine ⟨μ1, F1, g1, ρ, r1, re1, (postOx (rel := relS X.K) re1 p1).imp fun x H2 ⟨μ2, F2, a2, g2, x2, r2, re2, s2, p2⟩ => ?_⟩
    refine ⟨μ2, F2, g2, ρ, r2, re2, (postOx (rel := relS X.K) re2 p2).imp fun z H3 ⟨μ3, F3, a3, g3, x3, r3, re3, s3, p3⟩ => ?_⟩
    cases e : putS a1 a2 a3 g3 with
    | none => rw [e] at p3; exact p3.elim
    | some g4 =>
      rw [e] at p3
      exact put_ok r3 ((Sn.mono x2 s1).mono x3) (Sn.mono x3 s2) s3 e fun H4 r4 => p3 μ3 F3 H4 σ (.refl _ _) r4 re3
end
end DL
/-! DL6: comprehensions, new instances. -/
namespace DL
open PySem PySem.Spec PyProof.Rows L2
section
variable {X : Cx} {W : WX} {e a b c o : Expr} {es : List Expr} {pos p p2 : Pos} {fl : DE (List S)} {f f1 f2 f3 : DE S}
abbrev W0 : WX := fun _ _ _ _ => False
def wipeE (ρ : Env) : List Nat → Env
  | [] => ρ
  | v :: vs => (wipeE ρ vs).set v none
theorem Re.wipe {K : PySem.W.Frag} {μ : Mp} {F : Hp} {σ : St} {ρ : Env} (h : Re K μ F σ ρ) : ∀ vs : List Nat, Re K μ F (wipe σ vs) (wipeE ρ vs)
  | [] => h
  | v :: vs => Re.wipe1 v (Re.wipe h vs)
theorem wipe_at (σ : St) : ∀ (vs : List Nat) (i : Nat), (wipe σ vs)[i]? = if i ∈ vs then (σ[i]?).map (fun _ => none) else σ[i]?
  | [], i => by simp [L2.wipe]
  | v :: vs, i => by
    unfold L2.wipe
    by_cases h : i = v
    · subst h
      rw [List.getElem?_set]
      simp only [if_true, List.mem_cons, true_or]
      by_cases hl : i < σ.length
      · rw [if_pos (by rw [wipe_length]; exact hl), List.getElem?_eq_getElem hl]; rfl
      · rw [if_neg (by rw [wipe_length]; exact hl), List.getElem?_eq_none (by omega)]; rfl
    · rw [List.getElem?_set_ne (Ne.symm h), wipe_at σ vs i]
      by_cases h2 : i ∈ vs
      · rw [if_pos h2, if_pos (List.mem_cons_of_mem _ h2)]
      · rw [if_neg h2, if_neg (fun z => (List.mem_cons.mp z).elim h h2)]
theorem wipe_only {σ σ2 : St} {js vs : List Nat} (o : Only js (wipe σ vs) σ2) (hj : ∀ j ∈ js, j ∈ vs) : wipe σ2 vs = wipe σ vs := by
  apply List.ext_getElem?
  intro i
  rw [wipe_at, wipe_at]
  by_cases h : i ∈ vs
  · rw [if_pos h, if_pos h]
    have hl : σ2.length = σ.length := by rw [o.1, wipe_length]
    by_cases hi : i < σ.length
    · rw [List.getElem?_eq_getElem hi, List.getElem?_eq_getElem (by rw [hl]; exact hi)]; rfl
    · rw [List.getElem?_eq_none (l := σ) (by omega), List.getElem?_eq_none (l := σ2) (by omega)]
  · rw [if_neg h, if_neg h, o.2 i fun z => h (hj i z), wipe_at, if_neg h]
/-- the turns of a comprehension whose list is the n-th cell -/
def compL (n : Nat) (h : DG) (t : DE Bool) (el : DE S) (ρ : Env) : List D → G → Option G
  | [], g => some g
  | d :: ds, g => match h (.d d) ρ with
    | none => none
    | some ρ1 => match t ρ1 g with
      | .ok true g1 => match el ρ1 g1 with
        | .ok (.d x) g2 => match g2[n]? with
          | some (.lst acc) => if acc.length < 10000000 then compL n h t el ρ ds (g2.set n (.lst (acc ++ [x]))) else none
          | _ => none
        | _ => none
      | .ok false g1 => compL n h t el ρ ds g1
      | _ => none
/-- as data -/
def compD (it : DE (List D)) (vs : List Nat) (h : DG) (t : DE Bool) (el : DE S) : DE S := fun ρ g => (it ρ g).bind fun ds g1 => match compL g1.length h t el (wipeE ρ vs) ds (g1 ++ [.lst []]) with
  | some g2 => match g2[g1.length]? with
    | some (.lst acc) => .ok (.d (.lst acc)) (g2.take g1.length)
    | _ => .bad
  | none => .bad
/-- as a new cell -/
def compC (it : DE (List D)) (vs : List Nat) (h : DG) (t : DE Bool) (el : DE S) : DE S := fun ρ g => (it ρ g).bind fun ds g1 => match compL g1.length h t el (wipeE ρ vs) ds (g1 ++ [.lst []]) with
  | some g2 => match g2[g1.length]? with
    | some (.lst acc) => .ok (.c g1.length) (g2.take (g1.length + 1))
    | _ => .bad
  | none => .bad
theorem comp_core {K : PySem.W.Frag} {J : It} {ds : List D} {js vs : List Nat} {h : DG} {t : DE Bool} {el : DE S} {σ : St} {ρ : Env} {μ1 : Mp} {F1 H1 : Hp} {g1 g2 : G} {acc : List D} {Dl : Addr} {Qd : Hp → Prop}
    (r1 : Rp K μ1 F1 H1 g1) (re1 : Re K μ1 F1 σ ρ) (w1 : WalkD K F1 J ds) (hj : ∀ j ∈ js, j ∈ vs) (hD : H1 Dl = none) (e : compL g1.length h t el (wipeE ρ vs) ds (g1 ++ [.lst []]) = some g2)
    (hd : ∀ μ F H, Ext (μ1 ++ [[Dl]]) F1 μ F → Rp K μ F H g2 → Qd H) :
    ∃ Wi : Nat → Nat → Hp → Prop, (∃ m, Wi 0 m (upd H1 Dl (.lst []))) ∧ ∀ i m H, Wi i m H →
      (J.stop i H ∧ Qd H) ∨ (J.go i H ∧ ∃ Nx : Hp → Prop, (∀ H', Nx H' → ∃ m', m' < m ∧ Wi (i + 1) m' H') ∧ ∀ x H', J.yld i H x H' → tG K js h x (wipe σ vs) H' fun σ2 H2 => wipe σ2 vs = wipe σ vs ∧ tDB K W0 t σ2 H2 fun b H3 =>
        if b = true then tD K W0 el σ2 H3 fun y H4 => ∃ acc, H4 Dl = some (.lst acc) ∧ acc.length < sizeLine ∧ Nx (upd H4 Dl (.lst (acc ++ [y]))) else Nx H3) := by
  refine ⟨fun i m H => m = ds.length - i ∧ i ≤ ds.length ∧ ∃ μ F g, Ext (μ1 ++ [[Dl]]) F1 μ F ∧ Rp K μ F H g ∧ Re K μ F (wipe σ vs) (wipeE ρ vs) ∧ compL g1.length h t el (wipeE ρ vs) (ds.drop i) g = some g2,
    ⟨ds.length, by simp, Nat.zero_le _, μ1 ++ [[Dl]], F1, _, .refl _ _, r1.push hD (c := .lst []) ⟨Dl, rfl, r1.fresh hD, [], upd_same, .nil⟩, (re1.mono Ext.push).wipe vs, by simpa using e⟩, ?_⟩
  rintro i m H ⟨rfl, hi, μ, F, g, x, r, re, q⟩
  by_cases hl : i < ds.length
  · refine .inr ⟨w1.go i H (ex_trans x.f r.ex) hl, _, fun H' n => ⟨_, ?_, rfl, hl, n⟩, fun y H' hy => ?_⟩
    · omega
    · have hdi : ds[i]? = some ds[i] := List.getElem?_eq_getElem hl
      obtain ⟨F', x', r', d'⟩ := w1.yld i H y H' _ μ F g x.f r hy hdi
      rw [List.drop_eq_getElem_cons hl] at q
      unfold compL at q
      cases e1 : h (.d ds[i]) (wipeE ρ vs) with
      | none => rw [e1] at q; cases q
      | some ρ1 =>
        rw [e1] at q
        dsimp only at q
        refine ⟨μ, F', g, wipeE ρ vs, .d ds[i], ρ1, r', re.mono x', .d d', e1, fun σ2 re2 o2 => ⟨wipe_only o2 hj, ?_⟩⟩
        refine ⟨μ, F', g, ρ1, r', re2, ?_⟩
        cases e2 : t ρ1 g with
        | exc => rw [e2] at q; cases q
        | bad => rw [e2] at q; cases q
        | ok b g3 =>
          rw [e2] at q
          intro μ3 F3 H3 b' x3 r3 hb
          cases hb
          cases b with
          | false =>
            dsimp only at q
            rw [if_neg Bool.false_ne_true]
            exact ⟨μ3, F3, g3, (x.trans x').trans x3, r3, (re.mono x').mono x3, q⟩
          | true =>
            dsimp only at q
            rw [if_pos rfl]
            refine ⟨μ3, F3, g3, ρ1, r3, re2.mono x3, ?_⟩
            cases e3 : el ρ1 g3 with
            | exc => rw [e3] at q; cases q
            | bad => rw [e3] at q; cases q
            | ok s g4 =>
              rw [e3] at q
              cases s with
              | c n => cases q
              | i n => cases q
              | d d =>
                dsimp only at q
                intro μ4 F4 H4 v x4 r4 hv
                cases hv with
                | d hv =>
                have hx : Ext (μ1 ++ [[Dl]]) F1 μ4 F4 := ((x.trans x').trans x3).trans x4
                have hm : μ4[g1.length]? = some [Dl] := hx.m _ _ (by rw [← r1.len]; simp)
                obtain ⟨cc, hc, ok⟩ := r4.cell hm
                rw [hc] at q
                cases cc <;> first | (cases q; done) | skip
                rename_i ac
                dsimp only at q
                obtain ⟨a', z, hF, ys, h5, h6⟩ := id ok
                cases z
                by_cases hs : ac.length < 10000000
                · rw [if_pos hs] at q
                  refine ⟨ys, h5, by rw [h6.length]; exact Nat.lt_of_lt_of_le hs (by decide), μ4, F4, _, hx, ?_, (((re.mono x').mono x3).mono x4), q⟩
                  exact r4.write hm hc (by simp) (by intro z; cases z) ⟨Dl, rfl, hF, _, upd_same, h6.append (.cons hv .nil)⟩
                · rw [if_neg hs] at q; cases q
  · have ei : i = ds.length := by omega
    subst ei
    rw [List.drop_length] at q
    have q' : some g = some g2 := q
    cases q'
    exact .inl ⟨w1.stop _ H (ex_trans x.f r.ex) rfl, hd μ F H x r⟩
theorem comp_t {it : DE (List D)} {js vs : List Nat} {h : DG} {t : DE Bool} {el : DE S} (hj : ∀ j ∈ js, j ∈ vs) : ∀ σ H Q, tD X.K W (compD it vs h t el) σ H Q → tLc (tI X.K W it) (tG X.K js h) (tDB X.K W0 t) (tD X.K W0 el) vs σ H Q := fun σ H Q ⟨μ, F, g, ρ, r, re, q⟩ => by
  refine ⟨μ, F, g, ρ, r, re, (Post.step (rel := relI X.K) q).imp fun J H1 ⟨μ1, F1, ds, g1, x1, r1, w1, p1⟩ => ?_⟩
  intro Dl hD
  cases e1 : compL g1.length h t el (wipeE ρ vs) ds (g1 ++ [.lst []]) with
  | none => rw [e1] at p1; exact p1.elim
  | some g2 =>
    rw [e1] at p1
    dsimp only at p1
    refine comp_core (Qd := fun H => Q (.ref Dl) H) (acc := []) r1 (re.mono x1) w1 hj hD e1 fun μ2 F2 H2 x2 r2 => ?_
    have hm : μ2[g1.length]? = some [Dl] := x2.m _ _ (by rw [← r1.len]; simp)
    obtain ⟨cc, hc, ok⟩ := r2.cell hm
    rw [hc] at p1
    cases cc <;> first | exact False.elim p1 | skip
    rename_i ac
    dsimp only at p1
    obtain ⟨a', z, hF, ys, h5, h6⟩ := id ok
    cases z
    obtain ⟨r3, x3⟩ := r2.freeze hm hc (by intro z; cases z) h5
    have r4 := r3.cut g1.length
    have z : (g2.set g1.length .dead).take g1.length = g2.take g1.length := by
      rw [List.take_set]
      exact List.set_eq_of_length_le (by simp; omega)
    rw [z] at r4
    refine p1 (μ2.take g1.length) _ H2 _ ⟨fun n a hn => ?_, ex_trans x2.f x3.f⟩ r4 (.d (.lst upd_same (h6.mono x3.f)))
    have hl := (List.getElem?_eq_some_iff.mp hn).1
    rw [List.getElem?_take, if_pos (by rw [← r1.len]; exact hl)]
    exact x2.m n a (Ext.push (F := F1).m n a hn)
theorem comp_tc {it : DE (List D)} {js vs : List Nat} {h : DG} {t : DE Bool} {el : DE S} (hj : ∀ j ∈ js, j ∈ vs) : ∀ σ H Q, tD X.K W (compC it vs h t el) σ H Q → tLc (tI X.K W it) (tG X.K js h) (tDB X.K W0 t) (tD X.K W0 el) vs σ H Q := fun σ H Q ⟨μ, F, g, ρ, r, re, q⟩ => by
  refine ⟨μ, F, g, ρ, r, re, (Post.step (rel := relI X.K) q).imp fun J H1 ⟨μ1, F1, ds, g1, x1, r1, w1, p1⟩ => ?_⟩
  intro Dl hD
  cases e1 : compL g1.length h t el (wipeE ρ vs) ds (g1 ++ [.lst []]) with
  | none => rw [e1] at p1; exact p1.elim
  | some g2 =>
    rw [e1] at p1
    dsimp only at p1
    refine comp_core (Qd := fun H => Q (.ref Dl) H) (acc := []) r1 (re.mono x1) w1 hj hD e1 fun μ2 F2 H2 x2 r2 => ?_
    have hm : μ2[g1.length]? = some [Dl] := x2.m _ _ (by rw [← r1.len]; simp)
    obtain ⟨cc, hc, ok⟩ := r2.cell hm
    rw [hc] at p1
    cases cc <;> first | exact False.elim p1 | skip
    rename_i ac
    dsimp only at p1
    have r4 := r2.cut (g1.length + 1)
    refine p1 (μ2.take (g1.length + 1)) _ H2 _ ⟨fun n a hn => ?_, x2.f⟩ r4 (.c (l := []) ?_)
    · have hl := (List.getElem?_eq_some_iff.mp hn).1
      rw [List.getElem?_take, if_pos (by rw [← r1.len]; omega)]
      exact x2.m n a (Ext.push (F := F1).m n a hn)
    · rw [List.getElem?_take, if_pos (by omega)]; exact hm
@[simp] def yesB : DE Bool := fun _ g => .ok true g
def TsD (X : Cx) (W : WX) (ifs : List Expr) (t : DE Bool) : Prop := PTs X ifs (tDB X.K W t)
theorem pts_weak {X : Cx} {e : List Expr} {t t' : TT} (h : PTs X e t) (k : ∀ σ H Q, t' σ H Q → t σ H Q) : PTs X e t' := ⟨fun pins s σ H Q I q => h.run pins s σ H Q I (k σ H Q q)⟩
theorem ts_nil : TsD X W [] yesB := pts_weak pts_nil fun σ H Q ⟨μ, F, g, ρ, r, re, q⟩ => Post.ok q r rfl
theorem ts_one {t : DE Bool} (h : TD X W c t) : TsD X W [c] t := pts_one h
theorem ed_lc {elt tg iter : Expr} {ifs : List Expr} {scope : Scope} {own : List (Str × Nat)} {it : DE (List D)} {js : List Nat} {h : DG} {t : DE Bool} {el : DE S} (hc : X.calm = true) (hN : X.N.Nodup) (hi : ID X W tg iter it) (ok : BlkOk X.N X.env.scope scope own) (hj : ∀ j ∈ js, j ∈ own.map (·.2))
    (hg : ∀ (s : Shared) (H : Hp) (C : Addr) (cl : List (Str × Addr)) (fp : List Addr), GD (X.blk s H scope (compEnvC scope cl C X.env) fp) tg js h) (ht : ∀ (s : Shared) (H : Hp) (C : Addr) (cl : List (Str × Addr)) (fp : List Addr), TsD (X.blk s H scope (compEnvC scope cl C X.env) fp) W0 ifs t)
    (he : ∀ (s : Shared) (H : Hp) (C : Addr) (cl : List (Str × Addr)) (fp : List Addr), ED (X.blk s H scope (compEnvC scope cl C X.env) fp) W0 elt el) (hs : ∀ x, foldedSetIterable iter X.env x = pure x := by intro _; rfl) :
    ED X W (.ListComp elt [⟨tg, iter, ifs, 0⟩] scope pos) (compD it (own.map (·.2)) h t el) := pe_weak (pe_lc (g := tG X.K js h) (tt := tDB X.K W0 t) (te := tD X.K W0 el) hc hN hi ok hg ht he hs) (comp_t hj)
theorem ed_lcC {elt tg iter : Expr} {ifs : List Expr} {scope : Scope} {own : List (Str × Nat)} {it : DE (List D)} {js : List Nat} {h : DG} {t : DE Bool} {el : DE S} (hc : X.calm = true) (hN : X.N.Nodup) (hi : ID X W tg iter it) (ok : BlkOk X.N X.env.scope scope own) (hj : ∀ j ∈ js, j ∈ own.map (·.2))
    (hg : ∀ (s : Shared) (H : Hp) (C : Addr) (cl : List (Str × Addr)) (fp : List Addr), GD (X.blk s H scope (compEnvC scope cl C X.env) fp) tg js h) (ht : ∀ (s : Shared) (H : Hp) (C : Addr) (cl : List (Str × Addr)) (fp : List Addr), TsD (X.blk s H scope (compEnvC scope cl C X.env) fp) W0 ifs t)
    (he : ∀ (s : Shared) (H : Hp) (C : Addr) (cl : List (Str × Addr)) (fp : List Addr), ED (X.blk s H scope (compEnvC scope cl C X.env) fp) W0 elt el) (hs : ∀ x, foldedSetIterable iter X.env x = pure x := by intro _; rfl) :
    ED X W (.ListComp elt [⟨tg, iter, ifs, 0⟩] scope pos) (compC it (own.map (·.2)) h t el) := pe_weak (pe_lc (g := tG X.K js h) (tt := tDB X.K W0 t) (te := tD X.K W0 el) hc hN hi ok hg ht he hs) (comp_tc hj)
theorem asg_weak {te : TE} {f : DE S} {i : Nat} (h : ∀ σ H Q, tD X.K W f σ H Q → te σ H Q) : ∀ D σ H, tS X.K W (asgS i f) D σ H → tAsg te (gName i) D σ H := fun D σ H ⟨μ, F, g, ρ, r, re, q⟩ => by
  refine h σ H _ ?_
  obtain ⟨μ0, F0, g0, ρ0, r0, re0, p0⟩ := tD.stepS r re q
  refine ⟨μ0, F0, g0, ρ0, r0, re0, p0.imp fun x H1 ⟨μ1, F1, a1, g1, r1, re1, s1, p1⟩ => ?_⟩
  exact p1 μ1 F1 H1 _ (.refl _ _) r1 (Re.set s1 i re1)
theorem sd_lc {i : Nat} {y : Str} {py : Pos} {elt tg iter : Expr} {ifs : List Expr} {scope : Scope} {own : List (Str × Nat)} {pos spos : Pos} {it : DE (List D)} {js : List Nat} {h : DG} {t : DE Bool} {el : DE S} (hc : X.calm = true) (hN : X.N.Nodup) (hy : X.N[i]? = some y) (hyl : X.env.scope.names.lookup y = some .local)
    (hsw : swapsWith (.ListComp elt [⟨tg, iter, ifs, 0⟩] scope pos) (some (.Name y py)) spos.line X.env = pure true) (hi : ID X W tg iter it) (ok : BlkOk X.N X.env.scope scope own) (hj : ∀ j ∈ js, j ∈ own.map (·.2))
    (hg : ∀ (s : Shared) (H : Hp) (C : Addr) (cl : List (Str × Addr)) (fp : List Addr), GD (X.blk s H scope (compEnvC scope cl C X.env) fp) tg js h) (ht : ∀ (s : Shared) (H : Hp) (C : Addr) (cl : List (Str × Addr)) (fp : List Addr), TsD (X.blk s H scope (compEnvC scope cl C X.env) fp) W0 ifs t)
    (he : ∀ (s : Shared) (H : Hp) (C : Addr) (cl : List (Str × Addr)) (fp : List Addr), ED (X.blk s H scope (compEnvC scope cl C X.env) fp) W0 elt el) (hs : ∀ x, foldedSetIterable iter X.env x = pure x := by intro _; rfl) :
    SD X W (.Assign [.Name y py] (.ListComp elt [⟨tg, iter, ifs, 0⟩] scope pos) spos) (asgS i (compD it (own.map (·.2)) h t el)) := ps_weak (ps_setLc (g := tG X.K js h) (tt := tDB X.K W0 t) (te := tD X.K W0 el) hc hN hy hyl hsw hi ok hg ht he hs) (asg_weak (comp_t hj))
theorem sd_lcC {i : Nat} {y : Str} {py : Pos} {elt tg iter : Expr} {ifs : List Expr} {scope : Scope} {own : List (Str × Nat)} {pos spos : Pos} {it : DE (List D)} {js : List Nat} {h : DG} {t : DE Bool} {el : DE S} (hc : X.calm = true) (hN : X.N.Nodup) (hy : X.N[i]? = some y) (hyl : X.env.scope.names.lookup y = some .local)
    (hsw : swapsWith (.ListComp elt [⟨tg, iter, ifs, 0⟩] scope pos) (some (.Name y py)) spos.line X.env = pure true) (hi : ID X W tg iter it) (ok : BlkOk X.N X.env.scope scope own) (hj : ∀ j ∈ js, j ∈ own.map (·.2))
    (hg : ∀ (s : Shared) (H : Hp) (C : Addr) (cl : List (Str × Addr)) (fp : List Addr), GD (X.blk s H scope (compEnvC scope cl C X.env) fp) tg js h) (ht : ∀ (s : Shared) (H : Hp) (C : Addr) (cl : List (Str × Addr)) (fp : List Addr), TsD (X.blk s H scope (compEnvC scope cl C X.env) fp) W0 ifs t)
    (he : ∀ (s : Shared) (H : Hp) (C : Addr) (cl : List (Str × Addr)) (fp : List Addr), ED (X.blk s H scope (compEnvC scope cl C X.env) fp) W0 elt el) (hs : ∀ x, foldedSetIterable iter X.env x = pure x := by intro _; rfl) :
    SD X W (.Assign [.Name y py] (.ListComp elt [⟨tg, iter, ifs, 0⟩] scope pos) spos) (asgS i (compC it (own.map (·.2)) h t el)) := ps_weak (ps_setLc (g := tG X.K js h) (tt := tDB X.K W0 t) (te := tD X.K W0 el) hc hN hy hyl hsw hi ok hg ht he hs) (asg_weak (comp_tc hj))
end
end DL
/-! DLX: the program's own exceptions: class X(..): def __init__(self[, f]): super().__init__('..')[; self.f = f]. -/
namespace PySem
namespace DLX
open PySem.W PySem.Calls PyProof.Rows PySem.HandSPX
/-! ### the text of __init__ -/
def iS0 : Scope := { kind := .function, names := [(PySem.Str.ofString "self", .local), (PySem.Str.ofString "__class__", .free), (PySem.Str.ofString "super", .globalImplicit)], isGenerator := false, isCoroutine := false, more := [] }
def iS1 (f : Str) : Scope := { kind := .function, names := [(PySem.Str.ofString "self", .local), (f, .local), (PySem.Str.ofString "__class__", .free), (PySem.Str.ofString "super", .globalImplicit)], isGenerator := false, isCoroutine := false, more := [] }
def iA0 (p1 : Pos) : Arguments := { posonlyargs := [], args := [{ arg := "self", annotation := none, pos := p1 }], vararg := none, kwonlyargs := [], kw_defaults := [], kwarg := none, defaults := [] }
def iA1 (f : Str) (p1 p2 : Pos) : Arguments := { posonlyargs := [], args := [{ arg := "self", annotation := none, pos := p1 }, { arg := f, annotation := none, pos := p2 }], vararg := none, kwonlyargs := [], kw_defaults := [], kwarg := none, defaults := [] }
def iE (txt : Str) (j : Nat) (q0 q1 q2 q3 q4 q5 : Pos) : Stmt := .Expr (.Call (.Attribute (.Call (.Name "super" q0) [] [] q1) "__init__" q2) [.Constant (.str txt) j q3] [] q4) q5
def iF (f : Str) (r1 r2 r3 r4 : Pos) : Stmt := .Assign [.Attribute (.Name "self" r1) f r2] (.Name f r3) r4
/-- what the written part says of a class at C whose __init__, at fI, is such a def; cc: its cell __class__ -/
structure XTxt (K : Frag) (prog : Program) (C fI cc : Addr) : Prop where
  cls : ∃ nm q N bs bm sn sub ab col dd k0 k1 k2 k3 k5, K.lookup C = some (excClassObj nm q C N bs bm true sn sub ab col dd k0 k1 k2 k3 k5 "ValueError.__new__") ∧ refsVE bm = true
  sa : findIn K (.ref C) "__setattr__" = some (some (.builtin "object.__setattr__"))
  iC : findIn K (.ref C) "__init__" = some (some (.ref fI))
  tC : typeIn K (.ref fI) = some (.type "function")
  veC : subIn K (.ref C) (.type "ValueError") = some true
  cell : ∃ cl cld csl, K.lookup cc = some ⟨cl, cld, .cell (some (.ref C)), csl⟩
  sub : mroIn K C (.ref C) = some true
  sup : nsIn K mainGlobals "super" = some none
  tp : nsIn K cStatics "thirdparty.any" = some none
  top : (prog.main.scope.names.lookup ("super" : Str)).isSome = false
  along : ks_superIn K C C "__init__" = some (some (.builtin "ValueError.__init__"))
/-- .. and its __init__ -/
structure XFn (K : Frag) (prog : Program) (fI cc : Addr) (params : Arguments) (body : List Stmt) (scope : Scope) (f : List Str) (txt : Str) (j : Nat) (q0 q1 q2 q3 q4 : Pos) : Prop where
  args : ∀ (fd : FuncData) (us : List Value), fd.params = params → fd.defaults = .none → fd.kwdefaults = .none → us.length = f.length + 1 → bindArgs fd ⟨us, []⟩ = pure ((("self" : Str) :: f).zip us)
  he : ∃ pl : Sem Bool, ∀ (qual : Str) (L fI : Addr) (cda : Value) (cc : Addr), eval (.Call (.Attribute (.Call (.Name "super" q0) [] [] q1) "__init__" q2) [.Constant (.str txt) j q3] [] q4) (ksEnv qual scope L fI cda cc) = (do
      let ov ← attributeBase (.Call (.Name "super" q0) [] [] q1) "__init__" (ksEnv qual scope L fI cda cc) (eval (.Call (.Name "super" q0) [] [] q1) (ksEnv qual scope L fI cda cc))
      standAt q2.atName
      let (f, first) ← holding [ov] (getMethod ov "__init__" pl)
      callWith q4 f first (backTo q4 (starEach [.Constant (.str txt) j q3] (ksEnv qual scope L fI cda cc))) [])
  fn : ∃ (qual : Str) (oc : Value) (od : Option Addr) (doc pm : Value) (an : Option Addr) (cda : Addr) (ct : Value) (osl : Array (Option Value)) (ccl : Value) (cdd : Option Addr) (vs : Array Value) (ccs : Array (Option Value)) (file : Str) (tf : Tok),
    K.lookup fI = some ⟨oc, od, .func (ksFn "__init__" qual params body scope .none .none doc pm an (.ref cda) ct cc), osl⟩ ∧ codeIn K (.ref cda) qual = true ∧ K.lookup cda = some ⟨ccl, cdd, .fields vs, ccs⟩ ∧ vs[2]? = some (.str file tf) ∧ ((prog.main.file : Str) == file) = true
theorem ldL {M : Model} {A : Around} {E : Value → Shared → Prop} {s : Shared} {env : Env} {m : Str → Option Value} {x : Str} {pos : Pos} {v : Value} {Q : Value → Shared → Prop} (hn : s.heap.Ns env.locals m) (hv : m x = some v) (h : Q v s)
    (hk : env.scope.kind = .function) (hl : env.kindOf x = some .local) (hd : (x == ("__debug__" : Str)) = false) : wpAny M A (eval (.Name x pos) env) Q E s := wpAny_Name (wpAny_loadName_local hk hl hn hv h) hd
section
variable {prog : Program} {w : World} {A : Around} {E : Value → Shared → Prop} {s : Shared} {K : Frag} {mg mb : Str → Option Value} {C fI cc : Addr}
theorem call_bwV {h : Heap} {g : Array GenState} {d : Drawn} {t : Nat} {os : OsState} {nm q : Str} {N : Addr} {bs bm : List Value} {hdct : Bool} {sn : List Str} {sub : List Value} {ab : Bool} {col : Option Bool} {dd : Option Addr} {k0 k1 k2 k3 k5 : Option Value}
    {u e t0 : Addr} {rest : List Value} {Q : Value → Shared → Prop}
    (hC : h.get? C = some (excClassObj nm q C N bs bm hdct sn sub ab col dd k0 k1 k2 k3 k5 "ValueError.__new__")) (he : h.get? e = some (excO C t0)) (hu : h.get? u = some (kxs_mw "ValueError.__init__" e)) (hrest : rest.length ≤ sizeLine)
    (hq : ∀ h' t1, (∀ b o, b ≠ e → h.get? b = some o → h'.get? b = some o) → h'.get? e = some (excO C t1) → Q .none ⟨h', g, d, t, os⟩) :
    wpAny (model prog w) A (call (.ref u) rest) Q E ⟨h, g, d, t, os⟩ := by
  refine wpAny_call (codeAny_of_tree ?_)
  show wpAny _ A.in1 (callAny (.ref u) ⟨rest, []⟩) _ _ _
  simp only [callAny]
  refine wpAny_bind (wpAny_load hu ?_)
  simp only [kxs_mw, show (Value.type "method-wrapper" == Value.type "method" || Value.type "method-wrapper" == Value.type "builtin_function_or_method" || Value.type "method-wrapper" == Value.type "method-wrapper") = true by decide, if_true]
  refine W.KFB.if_so (by decide) ?_
  refine wpAny_bind (check_bound_init F.excBase_ValueError.toExcCallFacts hC he rfl ?_)
  refine wpAny_bind (wpAny_pure (wpAny_pure ?_))
  refine ⟨Code.quiet_builtin _ (by decide +kernel), codeAny_builtin F.excBase_ValueError.initEntry ?_⟩
  rw [Around.under_plainId F.excBase_ValueError.init.plain _]
  wp_walk
  refine hq _ h.objs.size (fun b o hb ho => ?_) ?_
  · rw [Heap.get?_update_other _ _ (Ne.symm hb)]
    exact Heap.get?_push_of_some _ ho
  · rw [Heap.get?_update_self _ (Heap.get?_push_of_some _ he) rfl]
    rfl
/-- super().__init__('..') as the first statement -/
theorem super_line (T : XTxt K prog C fI cc) {params : Arguments} {body rest : List Stmt} {scope : Scope} {qual : Str} {oc : Value} {od : Option Addr} {doc pm : Value} {an : Option Addr} {cda : Addr} {ct : Value} {osl : Array (Option Value)} {ccl : Value} {cdd : Option Addr} {vs : Array Value} {ccs : Array (Option Value)} {file : Str} {tf : Tok}
    (hfn : K.lookup fI = some ⟨oc, od, .func (ksFn "__init__" qual params body scope .none .none doc pm an (.ref cda) ct cc), osl⟩) (hcode : K.lookup cda = some ⟨ccl, cdd, .fields vs, ccs⟩) (hvs : vs[2]? = some (.str file tf)) (hfile : ((prog.main.file : Str) == file) = true)
    (X : K.In s.heap) (hg : s.heap.Ns mainGlobals mg) (hb : s.heap.Ns builtinsNs mb) (hbb : ∀ x : Str, x ≠ "__name__" → mb x = bootBuiltins x)
    {x t0 L : Addr} {m : Str → Option Value} {txt : Str} {j : Nat} {q0 q1 q2 q3 q4 q5 : Pos} {ar : Arg} {pl : Sem Bool} {Q : Flow → Shared → Prop} (he : ∀ (L : Addr), eval (.Call (.Attribute (.Call (.Name "super" q0) [] [] q1) "__init__" q2) [.Constant (.str txt) j q3] [] q4) (ksEnv qual scope L fI (.ref cda) cc) = (do
      let ov ← attributeBase (.Call (.Name "super" q0) [] [] q1) "__init__" (ksEnv qual scope L fI (.ref cda) cc) (eval (.Call (.Name "super" q0) [] [] q1) (ksEnv qual scope L fI (.ref cda) cc))
      standAt q2.atName
      let (f, first) ← holding [ov] (getMethod ov "__init__" pl)
      callWith q4 f first (backTo q4 (starEach [.Constant (.str txt) j q3] (ksEnv qual scope L fI (.ref cda) cc))) []))
    (hn : s.heap.Ns L m) (hm : m "self" = some (.ref x)) (hx : s.heap.get? x = some (excO C t0)) (hxL : L ≠ x)
    (har : (params.posonlyargs ++ params.args).head? = some ar) (hself : ar.arg = "self") (hks : scope.names.lookup ("super" : Str) = some .globalImplicit) (hkc : scope.names.lookup ("__class__" : Str) = some .free) (hka : scope.names.lookup ("self" : Str) = some .local) (hk : scope.kind = .function)
    (hq : ∀ h' tk t1, (∀ b o, b ≠ x → s.heap.get? b = some o → h'.get? b = some o) → h'.get? x = some (excO C t1) → h'.Ns L m → _root_.PySem.wpAt (model prog w) A (.func body (ksEnv qual scope L fI (.ref cda) cc)) (execs rest (ksEnv qual scope L fI (.ref cda) cc)) Q E { s with heap := h', toks := tk }) :
    _root_.PySem.wpAt (model prog w) A (.func body (ksEnv qual scope L fI (.ref cda) cc)) (execs (iE txt j q0 q1 q2 q3 q4 q5 :: rest) (ksEnv qual scope L fI (.ref cda) cc)) Q E s := by
  obtain ⟨nm, q, N, bs, bm, sn, sub, ab, col, dd, k0, k1, k2, k3, k5, hC, hbm⟩ := T.cls
  obtain ⟨cl, cld, csl, hcell⟩ := T.cell
  have hcl : clsIn K C = some { name := nm, bases := bs, mro := .ref C :: bm, ns := N, qualname := q, hasDict := true, slotNames := sn, subclasses := sub, abstract := ab, collection := col, hasDel := false } := by unfold clsIn; rw [hC] <;> rfl
  have hinter : interactive (ksEnv qual scope L fI (.ref cda) cc) = false := by simp [interactive, ksEnv, envX, hk]
  obtain ⟨hh, g, d, t, os⟩ := s
  refine ks_wpAt_execs_cons ?_
  refine ks_wpAt_Expr_any ?_ hinter rfl
  refine ks_wpAt_MethodCall ?_ (he L)
  refine ks_wpAt_super_base (env := ksEnv qual scope L fI (.ref cda) cc) hks hkc (by decide) rfl (X _ _ hfn) rfl har rfl (X _ _ hcode) rfl hvs hfile T.top ?_
  refine ks_loadName_global hk hks (loadGlobal_builtin (env := ksEnv qual scope L fI (.ref cda) cc) hg (mg_none_of X hg T.sup) hb ((hbb _ (by decide +kernel)).trans (by first | boot_by_name | rfl | kernel_rfl)) ⟨rfl, ?_⟩)
  refine wpAny_loadName_free hk hkc rfl ⟨_, X _ _ hcell, rfl⟩ ?_
  rw [hself]
  refine wpAny_loadName_local hk hka hn hm ?_
  refine ks_wpAny_isType_cls (X _ _ hC) rfl ⟨rfl, ?_⟩
  refine ks_wpAny_call_super (X _ _ hC) rfl hx rfl (fun c e => by cases e) (looks_mroIn X T.sub) (fun h2 e2 k2 => ?_)
  have X2 : K.In h2 := X.keeps k2
  have hx2 := k2 _ _ hx
  have hal : alongIn K "__init__" (((Value.ref C :: bm).dropWhile (· != .ref C)).drop 1) = some (some (.builtin "ValueError.__init__")) := by
    have z := T.along
    unfold ks_superIn at z
    rw [hcl] at z
    exact z
  have LT : Looks (model prog w) h2 (typeOf (.ref x)) (.ref C) := fun A Q E s k q => wpAny_typeOf_ref (k _ _ hx2) q
  have hI : Looks (model prog w) h2 (isInstance (.ref x) (.type "ValueError")) true := LT.andThen (looks_subIn X2 T.veC)
  have hxC : x ≠ C := fun z => by
    have z1 := X _ _ hC
    rw [← z, hx] at z1
    cases z1
  refine kxs_getMethod kxs_ValueError (so := hh.objs.size) (D := C) (x := x) (C := C) e2 (looks_opaque X2 T.tp) (l₀ := .ref C :: bm) ?_ rfl X2 hal hI hxC (by decide) ?_
  · exact fun A Q E s k q => wpAny_bind ((looks_clsIn X2 hcl) A _ E s k (wpAny_pure q))
  dsimp only
  refine kxs_callWith (i := "ValueError.__init__") (x := x) rfl ?_
  refine evalArgs_plain (spliced_cons (Constant_str (k := j) (pos := q3) (spliced_nil ?_)))
  have k3' : ∀ b o, hh.get? b = some o → (h2.push (kxs_mw "ValueError.__init__" x)).get? b = some o := fun b o e => Heap.get?_push_of_some _ (k2 b o e)
  have hu : (h2.push (kxs_mw "ValueError.__init__" x)).get? h2.objs.size = some (kxs_mw "ValueError.__init__" x) := Heap.get?_push_at rfl rfl
  refine ⟨hu, ?_⟩
  refine call_bwV (k3' _ _ (X _ _ hC)) (k3' _ _ hx) hu (by rw [sizeLine_eq]; show 1 ≤ 16777216; decide) fun h4 t4 k4 e4 => ?_
  have kk : ∀ b o, b ≠ x → hh.get? b = some o → h4.get? b = some o := fun b o hb e => k4 b o hb (k3' b o e)
  refine hq h4 _ t4 kk e4 ?_
  obtain ⟨oL, es, ep, hL, r⟩ := hn
  exact ⟨oL, es, ep, kk _ _ hxL hL, r⟩
/-- what is left of a fresh exception at x: no own dict -/
structure End0 (h h' : Heap) (x C t1 : Addr) : Prop where
  keep : ∀ b o, b ≠ x → h.get? b = some o → h'.get? b = some o
  obj : h'.get? x = some (excO C t1)
structure End1 (f : Str) (h h' : Heap) (x C dx t1 : Addr) (v : Value) : Prop where
  keep : ∀ b o, b ≠ x → h.get? b = some o → h'.get? b = some o
  obj : h'.get? x = some { cls := .ref C, dict := some dx, data := .fields #[.ref t1, .none, .none, .none, .bool false, .none] }
  dbig : h.objs.size ≤ dx
  dne : dx ≠ x
  ns : h'.Ns1 dx (fun y => if y = f then some v else none)
theorem init0 (T : XTxt K prog C fI cc) {p1 : Pos} {txt : Str} {j : Nat} {q0 q1 q2 q3 q4 q5 : Pos} (Fn : XFn K prog fI cc (iA0 p1) [iE txt j q0 q1 q2 q3 q4 q5] iS0 [] txt j q0 q1 q2 q3 q4) {x t0 : Addr} {R : Result → Shared → Prop} (X : K.In s.heap) (hg : s.heap.Ns mainGlobals mg) (hb : s.heap.Ns builtinsNs mb) (hbb : ∀ x : Str, x ≠ "__name__" → mb x = bootBuiltins x)
    (hlim : s.heap.NoLimit) (hx : s.heap.get? x = some (excO C t0)) (hroom : A.depth < recursionLimit)
    (hq : ∀ h' tk t1, End0 s.heap h' x C t1 → R (.ok (.ret .none)) { s with heap := h', toks := tk }) : codeAny (model prog w) A (.call (.ref fI) ⟨[.ref x], []⟩) R s := by
  obtain ⟨qual, oc, od, doc, pm, an, cda, ct, osl, ccl, cdd, vs, ccs, file, tf, hfn, hcd, hcode, hvs, hfile⟩ := Fn.fn
  obtain ⟨pl, he⟩ := Fn.he
  refine ks_codeAny_call_defAt (fd := ksFn "__init__" qual (iA0 p1) [iE txt j q0 q1 q2 q3 q4 q5] iS0 .none .none doc pm an (.ref cda) ct cc) (body := [iE txt j q0 q1 q2 q3 q4 q5]) (binds := [("self", .ref x)]) hroom (X _ _ hfn) rfl hlim (codeRec_of X hcd) rfl (BindsTo.of_eq (Fn.args _ _ rfl rfl rfl rfl)) (show ∀ y ∈ iS0.names, y.2 ≠ .cell by decide) (by intro y hy; simp at hy; subst hy; rfl) (fun h₁ hns k₁ => ?_) rfl rfl rfl
  have hxL : s.heap.objs.size ≠ x := Nat.ne_of_gt (Heap.lt_size hx)
  refine super_line (s := { s with heap := h₁, toks := s.toks + 1 }) (params := iA0 p1) (scope := iS0) (L := s.heap.objs.size) (pl := pl) T hfn hcode hvs hfile (X.keeps k₁) (hg.keeps k₁) (hb.keeps k₁) hbb (fun L => he _ _ _ _ _) hns (by first | rfl | with_unfolding_all rfl | kernel_rfl) (k₁ _ _ hx) hxL rfl rfl rfl rfl rfl rfl (fun h' tk t1 kk e1 hn' => ?_)
  refine wpAt_of_wpAny (wpAny_execs_nil ?_)
  exact hq h' tk t1 ⟨fun b o hb e => kk b o hb (k₁ b o e), e1⟩
theorem init1 (T : XTxt K prog C fI cc) {f : Str} {p1 p2 : Pos} {txt : Str} {j : Nat} {q0 q1 q2 q3 q4 q5 r1 r2 r3 r4 : Pos} (Fn : XFn K prog fI cc (iA1 f p1 p2) [iE txt j q0 q1 q2 q3 q4 q5, iF f r1 r2 r3 r4] (iS1 f) [f] txt j q0 q1 q2 q3 q4) (noN : findIn K (.ref C) f = some none)
    (hf : f ≠ "self") (hfd : (f == ("__debug__" : Str)) = false) (hfc : f ≠ "__class__") (hfs : f ≠ "super") {x t0 : Addr} {v : Value} {R : Result → Shared → Prop} (X : K.In s.heap) (hg : s.heap.Ns mainGlobals mg) (hb : s.heap.Ns builtinsNs mb) (hbb : ∀ x : Str, x ≠ "__name__" → mb x = bootBuiltins x)
    (hlim : s.heap.NoLimit) (hx : s.heap.get? x = some (excO C t0)) (hnx : K.lookup x = none) (hroom : A.depth < recursionLimit)
    (hq : ∀ h' tk dx t1, End1 f s.heap h' x C dx t1 v → R (.ok (.ret .none)) { s with heap := h', toks := tk }) : codeAny (model prog w) A (.call (.ref fI) ⟨[.ref x, v], []⟩) R s := by
  obtain ⟨qual, oc, od, doc, pm, an, cda, ct, osl, ccl, cdd, vs, ccs, file, tf, hfn, hcd, hcode, hvs, hfile⟩ := Fn.fn
  obtain ⟨pl, he⟩ := Fn.he
  obtain ⟨nm, q, N, bs, bm, sn, sub, ab, col, dd, k0, k1, k2, k3, k5, hC, hbm⟩ := T.cls
  have hcl : clsIn K C = some { name := nm, bases := bs, mro := .ref C :: bm, ns := N, qualname := q, hasDict := true, slotNames := sn, subclasses := sub, abstract := ab, collection := col, hasDel := false } := by unfold clsIn; rw [hC] <;> rfl
  have lk : (iS1 f).names.lookup f = some .local := by
    show (([(PySem.Str.ofString "self", NameKind.local), (f, .local), (PySem.Str.ofString "__class__", .free), (PySem.Str.ofString "super", .globalImplicit)] : List (Str × NameKind)).lookup f) = some .local
    have h1 : (f == PySem.Str.ofString "self") = false := by simpa using hf
    simp [List.lookup, h1]
  have lks : (iS1 f).names.lookup ("super" : Str) = some .globalImplicit := by
    have h1 : (PySem.Str.ofString "super" == f) = false := by simpa using Ne.symm hfs
    have h2 : (PySem.Str.ofString "super" == PySem.Str.ofString "self") = false := by decide
    have h3 : (PySem.Str.ofString "super" == PySem.Str.ofString "__class__") = false := by decide
    unfold iS1
    dsimp only
    rw [List.lookup_cons, h2, List.lookup_cons, h1, List.lookup_cons, h3, List.lookup_cons]
    simp
  have lkc : (iS1 f).names.lookup ("__class__" : Str) = some .free := by
    have h1 : (PySem.Str.ofString "__class__" == f) = false := by simpa using Ne.symm hfc
    have h2 : (PySem.Str.ofString "__class__" == PySem.Str.ofString "self") = false := by decide
    unfold iS1
    dsimp only
    rw [List.lookup_cons, h2, List.lookup_cons, h1, List.lookup_cons]
    simp
  refine ks_codeAny_call_defAt (fd := ksFn "__init__" qual (iA1 f p1 p2) [iE txt j q0 q1 q2 q3 q4 q5, iF f r1 r2 r3 r4] (iS1 f) .none .none doc pm an (.ref cda) ct cc) (body := [iE txt j q0 q1 q2 q3 q4 q5, iF f r1 r2 r3 r4]) (binds := [(("self" : Str), .ref x), (f, v)]) hroom (X _ _ hfn) rfl hlim (codeRec_of X hcd) rfl (BindsTo.of_eq (Fn.args _ _ rfl rfl rfl rfl))
    (show ∀ y ∈ (iS1 f).names, y.2 ≠ .cell by intro y hy; simp [iS1] at hy; rcases hy with rfl | rfl | rfl | rfl <;> simp) (fun y hy => by
      rcases List.mem_cons.mp hy with rfl | hy
      · rfl
      · rcases List.mem_cons.mp hy with rfl | hy
        · exact lk
        · cases hy) (fun h₁ hns k₁ => ?_) rfl rfl rfl
  have hxL : s.heap.objs.size ≠ x := Nat.ne_of_gt (Heap.lt_size hx)
  have m1 : ([(PySem.Str.ofString "self", Value.ref x), (f, v)] : List (Str × Value)).reverse.lookup (PySem.Str.ofString "self") = some (.ref x) := by
    have h1 : (PySem.Str.ofString "self" == f) = false := by simpa using Ne.symm hf
    show ([(f, v), (PySem.Str.ofString "self", Value.ref x)] : List (Str × Value)).lookup (PySem.Str.ofString "self") = some (.ref x)
    rw [List.lookup_cons, h1, List.lookup_cons]
    simp
  have m2 : ([(PySem.Str.ofString "self", Value.ref x), (f, v)] : List (Str × Value)).reverse.lookup f = some v := by
    show ([(f, v), (PySem.Str.ofString "self", Value.ref x)] : List (Str × Value)).lookup f = some v
    rw [List.lookup_cons]
    simp
  refine super_line (s := { s with heap := h₁, toks := s.toks + 2 }) (params := iA1 f p1 p2) (scope := iS1 f) (L := s.heap.objs.size) (pl := pl) T hfn hcode hvs hfile (X.keeps k₁) (hg.keeps k₁) (hb.keeps k₁) hbb (fun L => he _ _ _ _ _) hns m1 (k₁ _ _ hx) hxL rfl rfl lks lkc rfl rfl (fun h' tk t1 kk e1 hn' => ?_)
  have kk' : ∀ b o, b ≠ x → s.heap.get? b = some o → h'.get? b = some o := fun b o hb e => kk b o hb (k₁ b o e)
  have X' : K.In h' := fun a o e => kk' a o (fun z => by rw [z, hnx] at e; cases e) (X _ _ e)
  refine wpAt_of_wpAny (wpAny_execs_cons (plainObj_wpAny_Assign_Attribute ?_ rfl))
  refine ldL hn' m2 (ldL hn' m1 ?_ rfl rfl (by decide)) rfl lk hfd
  refine set_plain X' (ox := excO C t1) (od := none) ⟨e1, rfl, rfl, trivial⟩ T.sa ?_
  refine exc_osa X' e1 hcl (show refsVE (.ref C :: bm) = true from hbm) rfl noN (fun h₃ tk₃ dx k₃ dn dne hx₃ hn₃ => ?_)
  refine wpAny_execs_nil (hq h₃ tk₃ dx t1 ⟨fun b o hb e => k₃ b o hb (kk' b o hb e), hx₃, Nat.le_of_lt (Nat.lt_of_lt_of_le hn'.lt dn), dne, hn₃⟩)
/-- a made exception -/
structure Made0 (h h' : Heap) (e C : Addr) : Prop where
  keep : ∀ b o, h.get? b = some o → h'.get? b = some o
  new : h.objs.size ≤ e
  obj : ∃ oe vs, h'.get? e = some oe ∧ oe.cls = .ref C ∧ oe.dict = none ∧ oe.data = .fields vs ∧ vs[1]? = some .none
structure Made1 (f : Str) (h h' : Heap) (e C d : Addr) (v : Value) : Prop where
  keep : ∀ b o, h.get? b = some o → h'.get? b = some o
  new : h.objs.size ≤ e
  obj : ∃ oe vs, h'.get? e = some oe ∧ oe.cls = .ref C ∧ oe.dict = some d ∧ oe.data = .fields vs ∧ vs[1]? = some .none
  dbig : h.objs.size ≤ d
  dne : d ≠ e
  ns : h'.Ns1 d (fun y => if y = f then some v else none)
theorem made0 (T : XTxt K prog C fI cc) {p1 : Pos} {txt : Str} {j : Nat} {q0 q1 q2 q3 q4 q5 : Pos} (Fn : XFn K prog fI cc (iA0 p1) [iE txt j q0 q1 q2 q3 q4 q5] iS0 [] txt j q0 q1 q2 q3 q4) {R : Result → Shared → Prop} (X : K.In s.heap) (hg : s.heap.Ns mainGlobals mg) (hb : s.heap.Ns builtinsNs mb) (hbb : ∀ x : Str, x ≠ "__name__" → mb x = bootBuiltins x)
    (hlim : s.heap.NoLimit) (hroom : A.depth + 1 < recursionLimit)
    (hq : ∀ h' tk e, Made0 s.heap h' e C → R (.ok (.ret (.ref e))) { s with heap := h', toks := tk }) : codeAny (model prog w) A (.call (.ref C) ⟨[], []⟩) R s := by
  obtain ⟨nm, q, N, bs, bm, sn, sub, ab, col, dd, k0, k1, k2, k3, k5, hC, hbm⟩ := T.cls
  obtain ⟨hp, g, dr, tk, os⟩ := s
  have k : ∀ b o, hp.get? b = some o → ((hp.push (kdv_tup [])).push (excO C hp.objs.size)).get? b = some o := fun b o e => Heap.get?_push_of_some _ (Heap.get?_push_of_some _ e)
  have hget : ((hp.push (kdv_tup [])).push (excO C hp.objs.size)).get? (hp.objs.size + 1) = some (excO C hp.objs.size) := by heap_get
  refine call_own F.excBase_ValueError (fun X => refsVE_contains X bm hbm) (X _ _ hC) (looks_findIn X T.iC) (fun self => bind_fn X self T.tC) (by rw [sizeLine_eq]; show 0 ≤ 16777216; decide) ?_
  refine init0 (s := ⟨(hp.push (kdv_tup [])).push (excO C hp.objs.size), g, dr, tk, os⟩) T Fn (X.keeps k) (hg.keeps k) (hb.keeps k) hbb (hlim.keeps k) hget ?_ fun h' tk' t1 ⟨k', hx⟩ => ?_
  · show A.depth + 1 < recursionLimit
    exact hroom
  · have old : ∀ b o, hp.get? b = some o → h'.get? b = some o := fun b o e => k' b o (Nat.ne_of_lt (Nat.lt_succ_of_lt (Heap.lt_size e))) (k b o e)
    exact ⟨rfl, hq h' tk' (hp.objs.size + 1) ⟨old, Nat.le_succ _, ⟨_, _, hx, rfl, rfl, rfl, rfl⟩⟩⟩
theorem made1 (T : XTxt K prog C fI cc) {f : Str} {p1 p2 : Pos} {txt : Str} {j : Nat} {q0 q1 q2 q3 q4 q5 r1 r2 r3 r4 : Pos} (Fn : XFn K prog fI cc (iA1 f p1 p2) [iE txt j q0 q1 q2 q3 q4 q5, iF f r1 r2 r3 r4] (iS1 f) [f] txt j q0 q1 q2 q3 q4) (noN : findIn K (.ref C) f = some none)
    (hf : f ≠ "self") (hfd : (f == ("__debug__" : Str)) = false) (hfc : f ≠ "__class__") (hfs : f ≠ "super") {v : Value} {R : Result → Shared → Prop} (X : K.In s.heap) (hg : s.heap.Ns mainGlobals mg) (hb : s.heap.Ns builtinsNs mb) (hbb : ∀ x : Str, x ≠ "__name__" → mb x = bootBuiltins x)
    (hlim : s.heap.NoLimit) (hroom : A.depth + 1 < recursionLimit)
    (hq : ∀ h' tk e d, Made1 f s.heap h' e C d v → R (.ok (.ret (.ref e))) { s with heap := h', toks := tk }) : codeAny (model prog w) A (.call (.ref C) ⟨[v], []⟩) R s := by
  obtain ⟨nm, q, N, bs, bm, sn, sub, ab, col, dd, k0, k1, k2, k3, k5, hC, hbm⟩ := T.cls
  obtain ⟨hp, g, dr, tk, os⟩ := s
  have k : ∀ b o, hp.get? b = some o → ((hp.push (kdv_tup [v])).push (excO C hp.objs.size)).get? b = some o := fun b o e => Heap.get?_push_of_some _ (Heap.get?_push_of_some _ e)
  have hget : ((hp.push (kdv_tup [v])).push (excO C hp.objs.size)).get? (hp.objs.size + 1) = some (excO C hp.objs.size) := by heap_get
  have hnx : K.lookup (hp.objs.size + 1) = none := by
    cases e : K.lookup (hp.objs.size + 1) with
    | none => rfl
    | some o =>
      have z : hp.get? (hp.objs.size + 1) = some o := X _ _ e
      exact absurd (Nat.lt_of_succ_lt (Heap.lt_size z)) (Nat.lt_irrefl _)
  refine call_own F.excBase_ValueError (fun X => refsVE_contains X bm hbm) (X _ _ hC) (looks_findIn X T.iC) (fun self => bind_fn X self T.tC) (by rw [sizeLine_eq]; show 1 ≤ 16777216; decide) ?_
  refine init1 (s := ⟨(hp.push (kdv_tup [v])).push (excO C hp.objs.size), g, dr, tk, os⟩) T Fn noN hf hfd hfc hfs (X.keeps k) (hg.keeps k) (hb.keeps k) hbb (hlim.keeps k) hget hnx ?_ fun h' tk' dx t1 ⟨k', hx, dn, dne, hns⟩ => ?_
  · show A.depth + 1 < recursionLimit
    exact hroom
  · have old : ∀ b o, hp.get? b = some o → h'.get? b = some o := fun b o e => k' b o (Nat.ne_of_lt (Nat.lt_succ_of_lt (Heap.lt_size e))) (k b o e)
    have z : hp.objs.size + 1 + 1 ≤ dx := by
      first
        | (simpa only [Heap.size_push] using dn)
        | exact dn
        | (have q := dn; rw [Heap.size_push, Heap.size_push] at q; exact q)
    exact ⟨rfl, hq h' tk' (hp.objs.size + 1) dx ⟨old, Nat.le_succ _, ⟨_, _, hx, rfl, rfl, rfl, rfl⟩, Nat.le_trans (Nat.le_trans (Nat.le_succ _) (Nat.le_succ _)) z, dne, hns⟩⟩
end
end DLX
end PySem
namespace DL
open PySem PySem.Spec PyProof.Rows L2
theorem relO_1 {f : Str} {v : V} {v' : Value} (r : RelV v v') (g : Str) : RelO (List.lookup g [(f, v)]) (if g = f then some v' else none) := by
  by_cases hw : g = f
  · subst hw
    rw [if_pos rfl, List.lookup_cons]
    simp only [beq_self_eq_true]
    exact r
  · rw [if_neg hw]
    have qw : (g == f) = false := by simpa using hw
    rw [List.lookup_cons, qw]
    trivial
section
variable {X : Cx} {W : WX} {C fI cc : Addr} {nm : Str} {e : Expr} {f1 : DE S}
/-- raise X() -/
def tMk0 (C : Addr) : St → Hp → XK → Prop := fun σ H Q => Q (.ref C) none H
theorem pmk0 {p pos : Pos} {k : Nat} (T : PySem.DLX.XTxt X.K X.prog C fI cc) {p1 : Pos} {txt : Str} {j : Nat} {q0 q1 q2 q3 q4 q5 : Pos} (Fn : PySem.DLX.XFn X.K X.prog fI cc (PySem.DLX.iA0 p1) [PySem.DLX.iE txt j q0 q1 q2 q3 q4 q5] PySem.DLX.iS0 [] txt j q0 q1 q2 q3 q4)
    (hg : Gl X nm) (hm : X.mg nm = some (.ref C)) (kC : PySem.W.keepIn X.K (.ref C) = true) (exC : PySem.W.subIn X.K (.ref C) (.type "BaseException") = some true) (tyC : PySem.W.typeIn X.K (.ref C) = some (.type "type")) (hr : Room k X.A) (hdb : (nm == ("__debug__" : Str)) = false := by decide) :
    PMk X (.Call (.Name nm p) [] [] pos) (tMk0 C) := by
  intro pins s σ H Q I h
  refine wpAny_Call_Name_kw (ld_glob I hg hm ?_ hdb)
  refine PySem.W.callWith_K0 I.kIn kC ?_
  obtain ⟨mb, hb1, hb2⟩ := I.mod.blt
  refine wpAny_call (PySem.DLX.made0 T Fn I.kIn (I.mod.glob.keeps I.bk) (hb1.keeps I.bk) hb2 I.nolimit (by have := hr.dp; omega) fun h' tk' e M => ?_)
  obtain ⟨hp, g, dr, tk, os⟩ := s
  show MkP X pins σ Q (.ref e) ⟨h', g, dr, tk', os⟩
  obtain ⟨oe, fv, hoe, hc, hd, hdat, h1⟩ := M.obj
  obtain ⟨G', g1, g2⟩ := restrict h' fun b => decide (b ≠ e)
  have gk : ∀ b, b ≠ e → G'.get? b = h'.get? b := fun b hb => g1 b (decide_eq_true hb)
  have ge : G'.get? e = none := g2 e (by simp)
  have old : ∀ b o, hp.get? b = some o → G'.get? b = some o := fun b o q => (gk b (Nat.ne_of_lt (Nat.lt_of_lt_of_le (Heap.lt_size q) M.new))).trans (M.keep b o q)
  have J : Inv X pins σ H ⟨G', g, dr, tk', os⟩ := I.kept (t' := tk') old
  refine ⟨e, oe, fv, ⟨G', g, dr, tk', os⟩, _, .ref C, none, rfl, J, fun b o q => ?_, ge, hoe, ⟨hc, hd⟩, hdat, h1, I.hok.fresh M.new, rfl, I.bare, raises_own exC tyC, h⟩
  by_cases hb : b = e
  · have q' : G'.get? b = some o := q
    rw [hb, ge] at q'; cases q'
  · exact (gk b hb).symm.trans q
/-- raise X(e) -/
def tMk1 (f : Str) (C : Addr) (ta : TA) : St → Hp → XK → Prop := fun σ H Q => ta σ H fun vs H1 => ∃ v, vs = [v] ∧ ∀ d, H1 d = none → Q (.ref C) (some d) (upd H1 d (.xd [(f, v)]))
theorem pmk1 {f : Str} {ta : TA} {p pos : Pos} {k : Nat} (T : PySem.DLX.XTxt X.K X.prog C fI cc) {p1 p2 : Pos} {txt : Str} {j : Nat} {q0 q1 q2 q3 q4 q5 r1 r2 r3 r4 : Pos} (Fn : PySem.DLX.XFn X.K X.prog fI cc (PySem.DLX.iA1 f p1 p2) [PySem.DLX.iE txt j q0 q1 q2 q3 q4 q5, PySem.DLX.iF f r1 r2 r3 r4] (PySem.DLX.iS1 f) [f] txt j q0 q1 q2 q3 q4)
    (noN : PySem.W.findIn X.K (.ref C) f = some none) (hf : f ≠ "self") (hfd : (f == ("__debug__" : Str)) = false) (hfc : f ≠ "__class__") (hfs : f ≠ "super")
    (hg : Gl X nm) (hm : X.mg nm = some (.ref C)) (kC : PySem.W.keepIn X.K (.ref C) = true) (exC : PySem.W.subIn X.K (.ref C) (.type "BaseException") = some true) (tyC : PySem.W.typeIn X.K (.ref C) = some (.type "type")) (hr : Room k X.A) (ha : PA X [e] ta) (hdb : (nm == ("__debug__" : Str)) = false := by decide)
    (he : starEach (e :: []) X.env = (false, eval e X.env) :: starEach [] X.env := by rfl) (hpl : (backTo pos (starEach [] X.env)).any (·.1) = false := by rfl) :
    PMk X (.Call (.Name nm p) [e] [] pos) (tMk1 f C ta) := by
  intro pins s σ H Q I h
  refine wpAny_Call_Name_kw (ld_glob I hg hm ?_ hdb)
  refine PySem.W.callWith_K (h₀ := X.base) I.ok.mod.kin kC (thn (ha.run pos pins s σ H _ I h) fun us s1 hh => ?_) he hpl
  obtain ⟨vs, H1, I1, r1, v, ev, q1⟩ := hh
  subst ev
  refine ⟨I1.kIn, ?_⟩
  cases r1 with
  | cons rv rn =>
    rename_i v' us'
    cases rn
    show wpAny _ _ (call (.ref C) [v']) _ _ _
    obtain ⟨mb, hb1, hb2⟩ := I1.mod.blt
    have hlim := I1.nolimit
    refine wpAny_call (PySem.DLX.made1 T Fn noN hf hfd hfc hfs I1.kIn (I1.mod.glob.keeps I1.bk) (hb1.keeps I1.bk) hb2 hlim (by have := hr.dp; omega) fun h' tk' e d M => ?_)
    obtain ⟨hp, g, dr, tk, os⟩ := s1
    show MkP X pins σ Q (.ref e) ⟨h', g, dr, tk', os⟩
    obtain ⟨oe, fv, hoe, hc, hd, hdat, h1⟩ := M.obj
    have hns := M.ns
    obtain ⟨G', g1, g2⟩ := restrict h' fun b => decide (b ≠ e)
    have gk : ∀ b, b ≠ e → G'.get? b = h'.get? b := fun b hb => g1 b (decide_eq_true hb)
    have ge : G'.get? e = none := g2 e (by simp)
    have old : ∀ b o, hp.get? b = some o → G'.get? b = some o := fun b o q => (gk b (Nat.ne_of_lt (Nat.lt_of_lt_of_le (Heap.lt_size q) M.new))).trans (M.keep b o q)
    have ob : ObjOk X.prog X.w (upd H1 d (.xd [(f, v)])) G' d (.xd [(f, v)]) :=
      ⟨_, hns.at (fun o q => (gk d M.dne).trans q), fun f => relO_1 rv f⟩
    have J : Inv X pins σ (upd H1 d (.xd [(f, v)])) ⟨G', g, dr, tk', os⟩ := I1.laid (t' := tk') old M.dbig ob
    refine ⟨e, oe, fv, ⟨G', g, dr, tk', os⟩, _, .ref C, some d, rfl, J, fun b o q => ?_, ge, hoe, ⟨hc, hd⟩, hdat, h1, ?_, rfl, I1.bare, raises_own exC tyC, q1 d (I1.hok.fresh M.dbig)⟩
    · by_cases hb : b = e
      · have q' : G'.get? b = some o := q
        rw [hb, ge] at q'; cases q'
      · exact (gk b hb).symm.trans q
    · rw [upd_ne (Ne.symm M.dne)]
      exact I1.hok.fresh M.new
/-- raise X(..) as a function -/
def raise0 (C : Addr) : DS := fun ρ g => .exc C [] ρ g
def raise1 (C : Addr) (n : Str) (f : DE S) : DS := fun ρ g => (f ρ g).toO ρ fun s g1 => match s with
  | .d x => .exc C [(n, x)] ρ g1
  | _ => .bad
theorem sd_raise0 {e : Expr} {pos : Pos} (hc : X.calm = true) (tk : Takes X W) (h : PMk X e (tMk0 C)) : SD X W (.Raise (some e) none pos) (raise0 C) :=
  ps_weak (ps_raise hc tk h) fun D σ H ⟨μ, F, g, ρ, r, re, q⟩ => q μ F H σ none (.refl _ _) r re (.inl ⟨rfl, rfl⟩)
theorem sd_raise1 {n : Str} {ex : Expr} {pos : Pos} (hc : X.calm = true) (tk : Takes X W) (h : PMk X ex (tMk1 n C (tDL X.K W (consL f1 nilL)))) : SD X W (.Raise (some ex) none pos) (raise1 C n f1) :=
  ps_weak (ps_raise hc tk h) fun D σ H ⟨μ, F, g, ρ, r, re, q⟩ => by
    refine ⟨μ, F, g, ρ, r, re, ?_⟩
    have q' : PostS X.K μ F W D ((f1 ρ g).toO ρ fun s g1 => match s with
      | .d x => .exc C [(n, x)] ρ g1
      | _ => .bad) := q
    show Post (relL X.K) X.K μ F (XW W σ) ((f1 ρ g).bind fun x g1 => (R.ok [] g1).bind fun xs g2 => .ok (x :: xs) g2) _
    cases e1 : f1 ρ g with
    | bad => rw [e1] at q'; exact q'.elim
    | exc C fs g1 => rw [e1] at q'; exact fun μ1 F1 H1 d x r1 xd => q' μ1 F1 H1 σ d x r1 (re.mono x) xd
    | ok s g1 =>
      rw [e1] at q'
      cases s with
      | c n => exact q'.elim
      | i n => exact q'.elim
      | d x =>
        intro μ1 F1 H1 vs x1 r1 sv
        cases sv with
        | cons s1 t =>
          cases t
          cases s1 with
          | d hx =>
            refine ⟨_, rfl, fun dd hd => ?_⟩
            exact q' μ1 _ _ σ (some dd) (x1.trans (Ext.new (r1.fresh hd))) (r1.new hd) ((re.mono x1).mono (Ext.new (r1.fresh hd))) (.inr ⟨dd, _, rfl, upd_same, .cons (hx.mono (Ext.new (μ := μ1) (r1.fresh hd)).f) .nil⟩)
end
end DL
/-! DL7: new instances, methods, == by an own __eq__, try. -/
namespace DL
open PySem PySem.Spec PyProof.Rows L2
section
variable {X : Cx} {W : WX} {e a b c o : Expr} {es : List Expr} {pos p : Pos} {fl : DE (List S)} {f f1 f2 : DE S} {C fA : Addr} {fd : FuncData} {ps : List Str} {φ : DF} {k : Nat} {x m : Str}
theorem pass_w (tk : Takes X W) (σ : St) : PassesAt (L2.CX X.prog X.w) X σ (XW W σ) := fun _ _ _ e s' I c => tk e s' (XE.of_call I (fun _ _ _ h => h) c)
/-! ### C(..) -/
theorem run_makeS {pins : List (Addr × Obj)} {σ : St} {H : Hp} {s : Shared} {Q : VK} {us : List Value} {vs : List V} {sp : Sp} {E : XK} (M : Mk X.K C fA) (F : FnOk X.prog X.w X.K X.mg X.base (L2.CX X.prog X.w) k fA fd ps sp) (hr : Room (k + 1) X.A) (hb : Binds X.K fd ps [])
    (hx : PassesAt (L2.CX X.prog X.w) X σ E) (I : Inv X pins σ H s) (r : Vals vs us)
    (h : ∀ x dx, H x = none → H dx = none → dx ≠ x → sp (.ref x :: vs) (upd (upd H dx (.own x)) x (.ins C dx [])) (fun v H2 => v = .non ∧ Q (.ref x) H2) E) :
    wpAny (model X.prog X.w) X.A (call (.ref C) us) (EP X pins σ Q) X.xe s := by
  -- the new instance stands at nx + 1, its own dict at nx
  generalize hnx : s.heap.objs.size = nx
  have fresh : ∀ b, nx ≤ b → H b = none := fun b hb => I.hok.fresh (by rw [hnx]; exact hb)
  have wish := h (nx + 1) nx (fresh _ (Nat.le_succ nx)) (fresh _ (Nat.le_refl nx)) (Nat.ne_of_lt (Nat.lt_succ_self nx))
  have born := Inv.made (C := C) I
  rw [hnx] at born
  have pairs : Vals (V.ref (nx + 1) :: vs) (Value.ref (nx + 1) :: us) := .cons rfl r
  have bound := hb _ (Value.ref (nx + 1) :: us) born.kIn (by rw [List.append_nil, ← pairs.length, F.len _ _ _ _ wish])
  rw [List.append_nil] at bound
  have body := F.run _ X.stack _ _ ⟨Value.ref (nx + 1) :: us, []⟩ (Value.ref (nx + 1) :: us) _ _ E (hr.make C us []) (born.env0.make C us []) bound pairs wish
  refine wpAny_call (make_map (f := fA) I.kIn M.makes M.init (beq_iff_eq.mp M.fn) (codeAny_mono (by rw [← hnx] at body; exact body) fun res s2 out => ?_))
  rw [hnx] at out ⊢
  rcases res with er | fl
  · exact hx pins _ _ er s2 born out
  · cases fl <;> first | exact out.elim | skip
    obtain ⟨v, Hn, In, rv, hv, done⟩ := born.after out
    rw [hv] at rv
    exact ⟨rv, V.ref (nx + 1), Hn, In, rfl, done⟩
/-- C(..) as a new cell -/
def makeF (C : Addr) (φ : DF) : List S → G → R S := fun ss g => match φ (.c g.length :: ss) (g ++ [.ins C []]) with
  | .ok (.d .non) g2 => .ok (.c g.length) (g2.take (g.length + 1))
  | .ok _ _ => .bad
  | .exc C' fs g2 => .exc C' fs (g2.take g.length)
  | .bad => .bad
def makeC (C : Addr) (φ : DF) (fl : DE (List S)) : DE S := fun ρ g => (fl ρ g).bind (makeF C φ)
theorem make_run {pins : List (Addr × Obj)} {σ : St} {H : Hp} {s : Shared} {Q : VK} {us : List Value} {vs : List V} {μ : Mp} {F : Hp} {g : G} {ss : List S} (M : Mk X.K C fA) (kc : KC X.K C) (Fo : FnD X.prog X.w X.K X.mg X.base k fA fd ps φ) (hr : Room (k + 1) X.A) (hb : Binds X.K fd ps []) (tk : Takes X W)
    (I : Inv X pins σ H s) (r : Vals vs us) (rp : Rp X.K μ F H g) (sv : SnL X.K μ F vs ss) (hl : ss.length + 1 = ps.length) (q : Post (relS X.K) X.K μ F (XW W σ) (makeF C φ ss g) Q) :
    wpAny (model X.prog X.w) X.A (call (.ref C) us) (EP X pins σ Q) X.xe s := by
  refine run_makeS M Fo hr hb (pass_w tk σ) I r fun x dx hx hdx hne => ?_
  have rj : Rp X.K μ F (upd H dx (.own x)) g := rp.junk hdx
  have hx' : (upd H dx (.own x)) x = none := by rw [upd_ne (Ne.symm hne)]; exact hx
  have r2 := rj.push (p := x) (o := .ins C dx []) (c := .ins C []) hx' ⟨x, rfl, rj.fresh hx', dx, [], upd_same, .nil, kc⟩
  refine ⟨μ ++ [[x]], F, g ++ [.ins C []], .c g.length :: ss, r2, .cons (.c (l := []) (by rw [← rp.len]; simp)) (SnL.mono Ext.push sv), by simpa using hl, ?_⟩
  unfold makeF at q
  cases e1 : φ (.c g.length :: ss) (g ++ [.ins C []]) with
  | bad => rw [e1] at q; exact q.elim
  | exc C' fs g2 =>
    rw [e1] at q
    intro μ3 F3 H3 d x3 r3 xd
    have r4 := r3.cut g.length
    refine q (μ3.take g.length) F3 H3 d ⟨fun n a hn => ?_, x3.f⟩ r4 xd
    have hl := (List.getElem?_eq_some_iff.mp hn).1
    rw [List.getElem?_take, if_pos (by rw [← rp.len]; exact hl)]
    exact x3.m n a (Ext.push (F := F).m n a hn)
  | ok s g2 =>
    rw [e1] at q
    intro μ3 F3 H3 v x3 r3 sv3
    cases s with
    | c n => exact q.elim
    | i n => exact q.elim
    | d d =>
      cases d <;> first | exact False.elim q | skip
      cases sv3 with
      | d sv3 =>
        cases sv3
        refine ⟨rfl, ?_⟩
        have hm : μ3[g.length]? = some [x] := x3.m _ _ (by rw [← rp.len]; simp)
        refine q (μ3.take (g.length + 1)) F3 H3 _ ⟨fun n a hn => ?_, x3.f⟩ (r3.cut _) (.c (l := []) ?_)
        · have hl := (List.getElem?_eq_some_iff.mp hn).1
          rw [List.getElem?_take, if_pos (by rw [← rp.len]; omega)]
          exact x3.m n a (Ext.push (F := F).m n a hn)
        · rw [List.getElem?_take, if_pos (by omega)]; exact hm
theorem ed_make (M : Mk X.K C fA) (kc : KC X.K C) (Fo : FnD X.prog X.w X.K X.mg X.base k fA fd ps φ) (hr : Room (k + 1) X.A) (tk : Takes X W) (hg : Gl X x) (hm : X.mg x = some (.ref C)) (hb : Binds X.K fd ps [])
    (hn : (e :: es).length + 1 = ps.length) (hfl : ∀ ρ g ss g', fl ρ g = .ok ss g' → ss.length = (e :: es).length) (ha : LD X W (e :: es) fl) (hdb : (x == ("__debug__" : Str)) = false := by decide) (he : starEach (e :: es) X.env = (false, eval e X.env) :: starEach es X.env := by rfl) (hpl : (backTo pos (starEach es X.env)).any (·.1) = false := by rfl) :
    ED X W (.Call (.Name x p) (e :: es) [] pos) (makeC C φ fl) := by
  refine ⟨fun pins s σ H Q I ⟨μ, F, g, ρ, r, re, q⟩ => ?_⟩
  refine wpAny_Call_Name_kw (ld_glob I hg hm ?_ hdb)
  have q' : Post (relS X.K) X.K μ F (XW W σ) ((fl ρ g).bind (makeF C φ)) Q := q
  have q2 : Post (relL X.K) X.K μ F (XW W σ) (fl ρ g) (fun vs H1 => ∃ μ1 F1 a g1, Ext μ F μ1 F1 ∧ Rp X.K μ1 F1 H1 g1 ∧ relL X.K μ1 F1 vs a ∧ a.length = (e :: es).length ∧ Post (relS X.K) X.K μ1 F1 (XW W σ) (makeF C φ a g1) Q) := by
    cases h : fl ρ g with
    | ok ss g1 => rw [h] at q'; exact fun μ1 F1 H1 vs x r1 s1 => ⟨μ1, F1, ss, g1, x, r1, s1, hfl ρ g ss g1 h, q'.ext x⟩
    | exc C' fs g1 => rw [h] at q'; exact q'
    | bad => rw [h] at q'; exact q'.elim
  refine PySem.W.callWith_K (h₀ := X.base) I.ok.mod.kin M.kp (thn (ha.run pos pins s σ H _ I ⟨μ, F, g, ρ, r, re, q2⟩) fun us s1 ⟨vs, H1, I1, rv, μ1, F1, ss, g1, x1, r1, s1, hl, p1⟩ => ⟨I1.kIn, ?_⟩) he hpl
  exact make_run M kc Fo hr hb tk I1 rv r1 s1 (by rw [hl]; exact hn) p1
/-! ### o.m(..) -/
def methF (c : Addr) (m : Str) (φ : DF) (f : DE S) (fl : DE (List S)) : DE S := fun ρ g => (f ρ g).bind fun s g1 => match snap g1 s with
  | some (.ins C gs) => if C = c ∧ gs.lookup m = none then (fl ρ g1).bind fun ss g2 => φ (s :: ss) g2 else .bad
  | _ => .bad
theorem ed_meth {c : Addr} {pl : Sem Bool} {apos : Pos} (ho : ED X W o f) (kc : KC X.K c) (hm : Meth X.K c m fA) (Fo : FnD X.prog X.w X.K X.mg X.base k fA fd ps φ) (hr : Room k X.A) (hb : Binds X.K fd ps []) (tk : Takes X W)
    (hn : (e :: es).length + 1 = ps.length) (hfl : ∀ ρ g ss g', fl ρ g = .ok ss g' → ss.length = (e :: es).length) (ha : LD X W (e :: es) fl)
    (hst : starEach (e :: es) X.env = (false, eval e X.env) :: starEach es X.env := by rfl) (hpl : (backTo pos (starEach es X.env)).any (·.1) = false := by rfl)
    (ht : eval (.Call (.Attribute o m apos) (e :: es) [] pos) X.env = (do
      let ov ← eval o X.env
      standAt apos.atName
      let (f, first) ← holding [ov] (getMethod ov m pl)
      callWith pos f first (backTo pos (starEach (e :: es) X.env)) (backToKw pos (keywordEach [] X.env))) := by rfl) :
    ED X W (.Call (.Attribute o m apos) (e :: es) [] pos) (methF c m φ f fl) := by
  refine ⟨fun pins s σ H Q I ⟨μ, F, g, ρ, r, re, q⟩ => ?_⟩
  obtain ⟨μ0, F0, g0, ρ0, r0, re0, p0⟩ := tD.step r re q
  refine PySem.W.methodCall_KW (pl := pl) (thn (ho.run pins s σ H _ I ⟨μ0, F0, g0, ρ0, r0, re0, p0⟩) fun u s1 ⟨x, H1, I1, rx, μ1, F1, a1, g1, r1, re1, s1', p1⟩ => ?_) ht
  dsimp only at p1
  split at p1
  · rename_i C gs e1
    by_cases hC : C = c ∧ gs.lookup m = none
    · rw [if_pos hC] at p1
      obtain ⟨a, dx, fs, rfl, h1, h2, h3⟩ := snap_ins r1 s1' e1
      obtain rfl : u = Value.ref a := rx
      have hl : fs.lookup m = none := h2.lookup_none hC.2
      refine getmeth_ok I1 (by rw [← hC.1]; exact h1) kc.cl hm hl ?_
      have q2 : Post (relL X.K) X.K μ1 F1 (XW W σ) (fl ρ g1) (fun vs H1 => ∃ μ2 F2 ss g2, Ext μ1 F1 μ2 F2 ∧ Rp X.K μ2 F2 H1 g2 ∧ relL X.K μ2 F2 vs ss ∧ ss.length = (e :: es).length ∧ Post (relS X.K) X.K μ2 F2 (XW W σ) (φ (a1 :: ss) g2) Q) := by
        cases h : fl ρ g1 with
        | ok ss g2 => rw [h] at p1; exact fun μ2 F2 H2 vs x r2 s2 => ⟨μ2, F2, ss, g2, x, r2, s2, hfl ρ g1 ss g2 h, p1.ext x⟩
        | exc C' fs g2 => rw [h] at p1; exact p1
        | bad => rw [h] at p1; exact p1.elim
      refine PySem.W.callWith_K (first := [.ref a]) (h₀ := X.base) I.ok.mod.kin hm.kp (thn (ha.run pos pins s1 σ H1 _ I1 ⟨μ1, F1, g1, ρ, r1, re1, q2⟩) fun us s2 ⟨vs, H2, I2, rv, μ2, F2, ss, g2, x2, r2, s2', hl2, p2⟩ => ⟨I2.kIn, ?_⟩) hst hpl
      exact run_fnSD (E := fun σ => XW W σ) (dvs := []) (ds := []) (us := .ref a :: us) (vs := .ref a :: vs) Fo hr hb .nil (pass_w tk σ) I2 (.cons rfl rv) ⟨μ2, F2, g2, a1 :: ss, r2, by rw [List.append_nil]; exact .cons (s1'.mono x2) s2', by rw [List.length_cons, hl2]; exact hn, p2⟩
    · rw [if_neg hC] at p1; exact p1.elim
  · exact p1.elim
theorem ed_meth0 {c : Addr} {pl : Sem Bool} {apos : Pos} (ho : ED X W o f) (kc : KC X.K c) (hm : Meth X.K c m fA) (Fo : FnD X.prog X.w X.K X.mg X.base k fA fd ps φ) (hr : Room k X.A) (hb : Binds X.K fd ps []) (tk : Takes X W) (hn : 1 = ps.length)
    (ht : eval (.Call (.Attribute o m apos) [] [] pos) X.env = (do
      let ov ← eval o X.env
      standAt apos.atName
      let (f, first) ← holding [ov] (getMethod ov m pl)
      callWith pos f first (backTo pos (starEach [] X.env)) (backToKw pos (keywordEach [] X.env))) := by rfl) :
    ED X W (.Call (.Attribute o m apos) [] [] pos) (methF c m φ f nilL) := by
  refine ⟨fun pins s σ H Q I ⟨μ, F, g, ρ, r, re, q⟩ => ?_⟩
  obtain ⟨μ0, F0, g0, ρ0, r0, re0, p0⟩ := tD.step r re q
  refine PySem.W.methodCall_KW (pl := pl) (thn (ho.run pins s σ H _ I ⟨μ0, F0, g0, ρ0, r0, re0, p0⟩) fun u s1 ⟨x, H1, I1, rx, μ1, F1, a1, g1, r1, re1, s1', p1⟩ => ?_) ht
  dsimp only at p1
  split at p1
  · rename_i C gs e1
    by_cases hC : C = c ∧ gs.lookup m = none
    · rw [if_pos hC] at p1
      obtain ⟨a, dx, fs, rfl, h1, h2, h3⟩ := snap_ins r1 s1' e1
      obtain rfl : u = Value.ref a := rx
      have hl : fs.lookup m = none := h2.lookup_none hC.2
      refine getmeth_ok I1 (by rw [← hC.1]; exact h1) kc.cl hm hl ?_
      exact PySem.W.callWith_K0 (first := [.ref a]) I1.kIn hm.kp (run_fnSD (E := fun σ => XW W σ) (dvs := []) (ds := []) (us := [.ref a]) (vs := [.ref a]) Fo hr hb .nil (pass_w tk σ) I1 (.cons rfl .nil) ⟨μ1, F1, g1, [a1], r1, .cons s1' .nil, hn, p1⟩)
    · rw [if_neg hC] at p1; exact p1.elim
  · exact p1.elim
/-! ### == by an own __eq__ -/
def noX {α : Type} (r : R α) : R α := match r with
  | .exc _ _ _ => .bad
  | r => r
@[simp] def asF (r : R S) : R S := match r with
  | .ok (.d (.bl b)) g => .ok (.d (.bl b)) g
  | _ => .bad
/-- the type of a value, for a comparison -/
def rEqI (K : PySem.W.Frag) (C : Addr) (sp : Sp) : R2 := fun x y H Q => ∃ a dx fs tb, x = .ref a ∧ H a = some (.ins C dx fs) ∧ TyX K H y tb ∧ PySem.W.notFirst K C tb = true ∧ sp [x, y] H (fun v H' => (∃ b, v = .bl b) ∧ Q v H') (fun _ _ _ => False)
theorem op_eqI {c : Addr} (Fo : FnD X.prog X.w X.K X.mg X.base k fA fd ps φ) (hs : PySem.W.findIn X.K (.ref c) "__eq__" = some (some (.ref fA))) (hf : PySem.W.isFn X.K (.ref fA) = true) (hb : Binds X.K fd ps []) (hr : Room k X.A) : OpR X (compareOp .Eq) (rEqI X.K c (spD X.K ps.length φ)) := by
  intro pins s σ H x y v u Q I rx ry h
  obtain ⟨a, dx, fs, tb, rfl, ha, ty, nf, sp⟩ := h
  cases rx
  obtain ⟨mA, J, _⟩ := ins_get I.hok ha
  obtain ⟨od, J, _⟩ := J.look
  obtain ⟨m, hF⟩ := I.fr
  obtain ⟨P, Z, pz, _⟩ := kit_of I ry ty
  show wpAny (model X.prog X.w) X.A (richCompare .Eq (.ref a) u) _ _ s
  refine PySem.W.cmp_K (op := .Eq) (tb := tb) hr.units0 hF I.ok.mod.kin J (Z.ty (model X.prog X.w) s.heap I.kIn pz) nf hs hf ?_
  have r2 : Vals [V.ref a, y] [Value.ref a, u] := .cons rfl (.cons ry .nil)
  have hx : PassesAt (L2.CX X.prog X.w) X σ (fun _ _ _ => False) := fun _ _ _ e s' I c => by
    obtain ⟨_, _, _, _, _, _, _, _, _, _, _, _, z⟩ := c
    exact z.elim
  refine thn (run_fnSD (E := fun _ => fun _ _ _ => False) (dvs := []) (ds := []) Fo hr hb .nil hx I r2 (Q := fun v H' => (∃ b, v = .bl b) ∧ Q v H') (by rw [List.append_nil]; exact sp)) fun w s1 ⟨v, H1, I1, rv, ⟨b, eb⟩, q⟩ => ?_
  subst eb
  cases rv
  exact ⟨.bl b, H1, I1, rfl, q⟩
def eqI (c : Addr) (φ : DF) : S → S → G → R S := fun a b g => match snap g a, snap g b with
  | some (.ins C _), some d => if C = c then (match tyD d with
    | some _ => asF (φ [a, b] g)
    | none => match d with
      | .ins _ _ => asF (φ [a, b] g)
      | _ => .bad) else .bad
  | _, _ => .bad
theorem notFirst_t {K : PySem.W.Frag} {C : Addr} {T : String} (hT : T = "NoneType" ∨ T = "bool" ∨ T = "int" ∨ T = "str" ∨ T = "tuple" ∨ T = "list" ∨ T = "dict") : PySem.W.notFirst K C (.type T) = true := by
  unfold PySem.W.notFirst
  rcases hT with rfl | rfl | rfl | rfl | rfl | rfl | rfl <;> (unfold PySem.W.subIn; kernel_rfl)
theorem notFirst_c {K : PySem.W.Frag} {C C' : Addr} (k : KC K C') : PySem.W.notFirst K C (.ref C') = true := by
  unfold PySem.W.notFirst
  by_cases h : C' = C
  · subst h; simp
  · have e : PySem.W.subIn K (.ref C') (.ref C) = some false := by
      show PySem.W.mroIn K C' (.ref C) = some false
      rw [k.mro]
      simp [List.contains_cons, h, Ne.symm h]
    rw [e]; simp
theorem asF_post {K : PySem.W.Frag} {μ : Mp} {F : Hp} {E : XK} {r : R S} {Q : VK} (h : Post (relS K) K μ F E (asF r) Q) : Post (relS K) K μ F (fun _ _ _ => False) r (fun v H' => (∃ b, v = .bl b) ∧ Q v H') := by
  cases r with
  | bad => exact h.elim
  | exc => exact h.elim
  | ok s g =>
    cases s with
    | c n => exact h.elim
    | i n => exact h.elim
    | d d =>
      cases d <;> first | exact False.elim h | skip
      intro μ' F' H' v x r sv
      cases sv with
      | d sv => cases sv; exact ⟨⟨_, rfl⟩, h μ' F' H' _ x r (.d (.bl _))⟩
theorem opd_eqI {K : PySem.W.Frag} {c : Addr} {n : Nat} (hn : n = 2) : OpD K (rEqI K c (spD K n φ)) (eqI c φ) := by
  intro μ F H g E x y a b Q rp sx sy p
  unfold eqI at p
  split at p
  · rename_i C gs d e1 e2
    by_cases hC : C = c
    · rw [if_pos hC] at p
      obtain ⟨q, dx, fs, rfl, h1, h2, h3⟩ := snap_ins rp sx e1
      have hd := snap_ok rp sy e2
      have fin : ∀ {tb : Value}, TyX K H y tb → PySem.W.notFirst K c tb = true → Post (relS K) K μ F E (asF (φ [a, b] g)) Q → rEqI K c (spD K n φ) (.ref q) y H Q := fun {tb} ty nf p =>
        ⟨q, dx, fs, tb, rfl, by rw [← hC]; exact h1, ty, nf, μ, F, g, [a, b], rp, .cons sx (.cons sy .nil), by rw [hn]; rfl, asF_post p⟩
      cases e3 : tyD d with
      | some T => rw [e3] at p; exact fin (tyD_ok hd e3) (notFirst_t (tyD_seven e3)) p
      | none =>
        rw [e3] at p
        dsimp only at p
        cases d <;> first | exact False.elim p | skip
        obtain ⟨h4, h5⟩ := ins_ty hd
        exact fin h4 (notFirst_c h5) p
    · rw [if_neg hC] at p; exact p.elim
  · exact p.elim
/-- == : data, or an instance of the class c on the left -/
def eqX (c : Addr) (φ : DF) : S → S → G → R S := fun a b g => match snap g a with
  | some (.ins _ _) => eqI c φ a b g
  | _ => opD eqD a b g
def rEqX (K : PySem.W.Frag) (C : Addr) (sp : Sp) : R2 := fun x y H Q => rEqD K x y H Q ∨ rEqI K C sp x y H Q
theorem opd_eqX {K : PySem.W.Frag} {c : Addr} {n : Nat} (hn : n = 2) : OpD K (rEqX K c (spD K n φ)) (eqX c φ) := by
  intro μ F H g E x y a b Q rp sx sy p
  unfold eqX at p
  split at p
  · exact .inr (opd_eqI hn μ F H g E x y a b Q rp sx sy p)
  · exact .inl (opd_eq μ F H g E x y a b Q rp sx sy p)
theorem op_eqX {c : Addr} (Fo : FnD X.prog X.w X.K X.mg X.base k fA fd ps φ) (hs : PySem.W.findIn X.K (.ref c) "__eq__" = some (some (.ref fA))) (hf : PySem.W.isFn X.K (.ref fA) = true) (hb : Binds X.K fd ps []) (hr : Room k X.A) : OpR X (compareOp .Eq) (rEqX X.K c (spD X.K ps.length φ)) := opr_or (op_eqD hr.units) (op_eqI Fo hs hf hb hr)
end
end DL
/-! DL8: try .. except, several clauses, with and without names; what a suite asks of the exception. -/
namespace DL
open PySem PySem.Spec PyProof.Rows L2
/-! ### as functions -/
/-- a clause: what of the classes it takes, the name's slot, its suite -/
abbrev ClD := (Addr → Option Bool) × Option Nat × (Addr → Addr → Option Addr → DS)
def xnI (io : Option Nat) (a C : Addr) (d : Option Addr) (fs : List (Str × D)) (ρ : Env) : Env := match io with
  | none => ρ
  | some i => ρ.set i (some (.d (.xn a C d fs)))
def wipE (io : Option Nat) (ρ : Env) : Env := match io with
  | none => ρ
  | some i => ρ.set i none
def wipI (io : Option Nat) (o : O) : O := match o with
  | .nx ρ g => .nx (wipE io ρ) g
  | .bk ρ g => .bk (wipE io ρ) g
  | .ct ρ g => .ct (wipE io ρ) g
  | .rt s g => .rt s g
  | _ => .bad
/-- what all of f answers -/
noncomputable def anyO (f : Addr → Option Addr → O) : O := open Classical in if h : ∃ o, ∀ a d, f a d = o then h.choose else .bad
theorem anyO_eq {f : Addr → Option Addr → O} {o : O} (h : ∀ a d, f a d = o) : anyO f = o := by
  unfold anyO
  have e : ∃ o, ∀ a d, f a d = o := ⟨o, h⟩
  rw [dif_pos e, ← e.choose_spec 0 none, h]
theorem anyO_ok {f : Addr → Option Addr → O} (a : Addr) (d : Option Addr) (h : anyO f ≠ .bad) : f a d = anyO f := by
  unfold anyO at h ⊢
  by_cases e : ∃ o, ∀ a d, f a d = o
  · rw [dif_pos e]; exact e.choose_spec a d
  · rw [dif_neg e] at h; exact absurd rfl h
noncomputable def catD (C : Addr) (fs : List (Str × D)) (ρ : Env) (g : G) : List ClD → O
  | [] => .exc C fs ρ g
  | (sb, io, h) :: r => match sb C with
    | some true => anyO fun a d => wipI io (h a C d (xnI io a C d fs ρ) g)
    | some false => catD C fs ρ g r
    | none => .bad
noncomputable def tryS (body : DS) (cs : List ClD) : DS := fun ρ g => match body ρ g with
  | .exc C fs ρ1 g1 => catD C fs ρ1 g1 cs
  | o => o
section
variable {X : Cx} {W : WX} {body suite : List Stmt} {b₀ : Stmt} {pos np pos' : Pos} {k1 : DS} {x n : Str} {c : Value} {i : Nat} {sb : Addr → Option Bool} {h : Addr → Addr → Option Addr → DS}
/-- the slots with the exception in slot i -/
theorem Re.caught {K : PySem.W.Frag} {μ : Mp} {F : Hp} {σ : St} {ρ : DL.Env} {a C : Addr} {d : Option Addr} {gs : List (Str × D)} (re : Re K μ F σ ρ) (xd : Xd K F d gs) : Re K μ F (σ.set i (some (.ref a))) (xnI (some i) a C d gs ρ) := by
  refine Re.set (.d ?_) i re
  rcases xd with ⟨e1, e2⟩ | ⟨dx, fv, e1, h1, h2⟩
  · rw [e1, e2]; exact .xn0 a C
  · rw [e1]; exact .xn1 h1 h2
/-- the end of a suite: the name's slot is emptied -/
theorem wip_post {K : PySem.W.Frag} {μ : Mp} {F : Hp} {W1 W2 : WX} {De : Ends} {o : O} (q : PostS K μ F W1 De (wipI (some i) o)) :
    PostS K μ F W2 { nx := fun σ1 H1 => De.nx (σ1.set i none) H1, rt := De.rt, bk := fun σ1 H1 => De.bk (σ1.set i none) H1, ct := fun σ1 H1 => De.ct (σ1.set i none) H1 } o := by
  cases o with
  | exc C fs ρ g => exact False.elim q
  | bad => exact False.elim q
  | rt s g => exact q
  | nx ρ g => exact fun μ1 F1 H1 σ1 x1 r1 e1 => q μ1 F1 H1 _ x1 r1 (e1.wipe1 i)
  | bk ρ g => exact fun μ1 F1 H1 σ1 x1 r1 e1 => q μ1 F1 H1 _ x1 r1 (e1.wipe1 i)
  | ct ρ g => exact fun μ1 F1 H1 σ1 x1 r1 e1 => q μ1 F1 H1 _ x1 r1 (e1.wipe1 i)
/-- one clause, with a name -/
theorem sd_try1 (hs : X.stack = X.env :: X.outer) (hf : X.env.frame = some X.env.locals) (hN : X.N.Nodup) (hi : X.N[i]? = some n) (hln : X.env.kindOf n = some .local) (hc : Names X x c) (tk : Takes X W)
    (hb : ∀ (W : WX) (pn : List (Addr × Obj)) (xe : Value → Shared → Prop), Takes (X.tr pn xe) W → PassesOwn (model X.prog X.w) X.A X.env xe → SDs (X.tr pn xe) W body k1)
    (hsb : ∀ C b, sb C = some b → PySem.W.exmOne X.K (.ref C) c = some b)
    (hsu : ∀ (a : Addr) (oe : Obj) (C : Addr) (d : Option Addr) (pn : List (Addr × Obj)), Zc (.ref C) d oe → (∃ vs, oe.data = .fields vs) → SDs (X.suite a ((a, oe) :: pn)) W0 (b₀ :: suite) (h a C d)) :
    SD X W (.Try body [.ExceptHandler (some (.Name x np)) (some n) (b₀ :: suite) pos'] [] [] pos) (tryS k1 [(sb, some i, h)]) := by
  refine ps_weak (ps_try_as (tb := fun W => tS X.K W k1) (ts := fun a cls d De σ H => ∃ C, cls = .ref C ∧ tS X.K W0 (h a C d) De σ H) hs hf hN hi hln hc tk hb fun a oe cls d pn hz hd => ⟨fun pins s σ H De I ⟨C, ec, q⟩ => ?_⟩) fun De σ H ⟨μ, F, g, ρ, r, re, q⟩ => ⟨μ, F, g, ρ, r, re, ?_⟩
  · rw [ec] at hz
    exact (hsu a oe C d pn hz hd).run pins s σ H De I q
  unfold tryS at q
  cases e : k1 ρ g with
  | bad => rw [e] at q; exact q.elim
  | nx ρ1 g1 => rw [e] at q; exact q
  | rt s1 g1 => rw [e] at q; exact q
  | bk ρ1 g1 => rw [e] at q; exact q
  | ct ρ1 g1 => rw [e] at q; exact q
  | exc C fs ρ1 g1 =>
    rw [e] at q
    intro μ1 F1 H1 σ1 d x1 r1 re1 xd
    have q1 := PostS.ext x1 (show PostS X.K μ F W De (catD C fs ρ1 g1 [(sb, some i, h)]) from q)
    unfold catD at q1
    cases e1 : sb C with
    | none => rw [e1] at q1; exact q1.elim
    | some b =>
      rw [e1] at q1
      refine ⟨b, hsb C b e1, fun hb1 a ha => ?_, fun hb1 => ?_⟩
      · subst hb1
        dsimp only at q1
        have nb : anyO (fun a d => wipI (some i) (h a C d (xnI (some i) a C d fs ρ1) g1)) ≠ .bad := fun z => by rw [z] at q1; exact q1
        rw [← anyO_ok a d nb] at q1
        exact ⟨C, rfl, μ1, F1, g1, _, r1, Re.caught re1 xd, wip_post q1⟩
      · subst hb1
        exact q1 μ1 F1 H1 σ1 d (.refl _ _) r1 re1 xd
end
/-! ### the exception in its suite -/
theorem exc_inst {X : Cx} {a C : Addr} {oe : Obj} {d : Option Addr} {pn pins : List (Addr × Obj)} {σ : St} {H : Hp} {s : Shared} {F : Hp} {gs : List (Str × D)} (hz : Zc (.ref C) d oe) (hf : ∃ vs, oe.data = .fields vs) (I : Inv (X.suite a ((a, oe) :: pn)) pins σ H s) (e : Ex F H) (dx : Dn X.K F (.ref a) (.xn a C d gs)) : ∃ od, PySem.W.InstAt s.heap a oe C od := by
  obtain ⟨ha, _⟩ := I.pin (a, oe) (List.mem_append_left _ List.mem_cons_self)
  obtain ⟨vs, hd⟩ := hf
  cases dx with
  | xn0 =>
    refine ⟨none, ha, hz.1, by unfold PySem.W.notCls; rw [hd] <;> rfl, ?_⟩
    rw [hz.2]; trivial
  | @xn1 _ _ dd fs _ h1 h2 =>
    have hx : ObjOk X.prog X.w H s.heap dd (.xd fs) := I.hok dd _ (e _ _ h1)
    obtain ⟨mA, hns, hr⟩ := hx
    obtain ⟨od, ho, hl⟩ := lookIn_ns hns
    exact ⟨some od, ha, hz.1, by unfold PySem.W.notCls; rw [hd] <;> rfl, by rw [hz.2]; exact ho⟩

abbrev ExK := Addr ⊕ String
def exV : ExK → Value
  | .inl a => .ref a
  | .inr n => .type n
def exD : D → Option ExK
  | .adr a => some (.inl a)
  | .typ n => some (.inr n)
  | _ => none
abbrev ExT := List (Addr × ExK × Bool)
def exFind (tb : ExT) (C : Addr) (k : ExK) : Option Bool := (tb.find? fun e => decide (e.1 = C ∧ e.2.1 = k)).map (·.2.2)
theorem exFind_ok {tb : ExT} {C : Addr} {k : ExK} {b : Bool} (h : exFind tb C k = some b) : (C, k, b) ∈ tb := by
  unfold exFind at h
  cases e : tb.find? fun e => decide (e.1 = C ∧ e.2.1 = k) with
  | none => rw [e] at h; cases h
  | some y =>
    rw [e] at h
    have h2 : y.2.2 = b := by simpa using h
    have h3 := List.find?_some e
    obtain ⟨h4, h5⟩ := of_decide_eq_true h3
    have h6 := List.mem_of_find?_eq_some e
    have : y = (C, k, b) := by
      obtain ⟨y1, y2, y3⟩ := y
      dsimp only at h2 h4 h5
      subst h2 h4 h5
      rfl
    rw [← this]; exact h6
/-- isinstance(e, T) in the suite of (a, d) -/
def isxS (a C0 : Addr) (d : Option Addr) (tb : ExT) : List S → G → R S := fun ss g => match ss with
  | [.d (.xn a' C d' _), .d k] => if a' = a ∧ C = C0 ∧ d' = d then (match exD k with
    | some k => match exFind tb C k with
      | some b => .ok (.d (.bl b)) g
      | none => .bad
    | none => .bad) else .bad
  | _ => .bad
def rIsx (K : PySem.W.Frag) (a C : Addr) (d : Option Addr) (tb : ExT) : List V → Hp → VK → Prop := fun xs H Q => ∃ (F : Hp) (gs : List (Str × D)) (c : V) (k : ExK) (b : Bool), xs = [.ref a, c] ∧ Ex F H ∧ Dn K F (.ref a) (.xn a C d gs) ∧ (∀ u, RelV c u → u = exV k) ∧ exFind tb C k = some b ∧ Q (.bl b) H
structure ExTOk (K : PySem.W.Frag) (tb : ExT) : Prop where
  cc : ∀ e ∈ tb, L2.ExcC K e.1
  kk : ∀ e ∈ tb, PySem.W.kitOne K (.ref e.1) (exV e.2.1) = some e.2.2
theorem zc_cls {cls cls' : Value} {d d' : Option Addr} {oe : Obj} (h : Zc cls d oe) (h' : Zc cls' d' oe) : cls = cls' ∧ d = d' := ⟨h.1.symm.trans h'.1, h.2.symm.trans h'.2⟩
theorem call_isx {X : Cx} {a C : Addr} {d : Option Addr} {oe : Obj} {pn : List (Addr × Obj)} {tb : ExT} (T : ExTOk X.K tb) (hz : Zc (.ref C) d oe) (hf : ∃ vs, oe.data = .fields vs) : CallR (X.suite a ((a, oe) :: pn)) (.builtin "isinstance") (rIsx X.K a C d tb) := by
  intro pins s σ H xs us Q I r h
  obtain ⟨F, gs, c, k, b, rfl, ex, dx, hcv, e, q⟩ := h
  cases r with
  | cons rx rr =>
    cases rr with
    | cons rt rr =>
      cases rr
      cases rx
      have ec := hcv _ rt
      subst ec
      obtain ⟨od, J⟩ := exc_inst hz hf I ex dx
      have hm := exFind_ok e
      have cC := T.cc _ hm
      have ck := T.kk _ hm
      exact PySem.W.kia_one (PySem.W.kitx_exc (by obtain ⟨cd, hc, _⟩ := PySem.W.any_some cC.hd; rw [hc]; rfl) cC.hg cC.hk cC.hs cC.ha cC.hn cC.ht cC.hm) I.kIn J ck (fun z => nomatch z) fun tk => ⟨.bl b, H, I.kept (t' := tk) fun _ _ z => z, rfl, q⟩
theorem cd_isx {K : PySem.W.Frag} {a C : Addr} {d : Option Addr} {tb : ExT} : CallD K (rIsx K a C d tb) (isxS a C d tb) := by
  intro μ F H g E vs ss Q rp sv p
  unfold isxS at p
  split at p
  · rename_i a' C' d' gs k
    by_cases hc : a' = a ∧ C' = C ∧ d' = d
    · rw [if_pos hc] at p
      obtain ⟨rfl, rfl, rfl⟩ := hc
      cases e1 : exD k with
      | none => rw [e1] at p; exact p.elim
      | some kk =>
        rw [e1] at p
        dsimp only at p
        cases e2 : exFind tb C' kk with
        | none => rw [e2] at p; exact p.elim
        | some b =>
          rw [e2] at p
          cases sv with
          | cons s1 t =>
            cases t with
            | cons s2 t =>
              cases t
              cases s1 with
              | d hx =>
                cases s2 with
                | d hk =>
                  rename_i v1 v2
                  have ev : v1 = V.ref a' := by
                    cases hx <;> rfl
                  subst ev
                  refine ⟨F, gs, _, kk, b, rfl, rp.ex, hx, ?_, e2, Post.ok p rp (.d (.bl _))⟩
                  cases hk <;> first | (cases e1; done) | skip
                  · cases e1
                    intro u hu
                    exact hu
                  · cases e1
                    intro u hu
                    exact hu
    · rw [if_neg hc] at p; exact p.elim
  · exact p.elim
/-- e.n in the suite -/
def xfS (a C0 : Addr) (d : Option Addr) (C1 : Addr) (n : Str) : S → G → R S := fun s g => match s with
  | .d (.xn a' C d' gs) => if a' = a ∧ C = C0 ∧ d' = d ∧ C0 = C1 then (match gs.lookup n with
    | some x => .ok (.d x) g
    | none => .bad) else .bad
  | _ => .bad
theorem ed_xf {X : Cx} {a C C1 : Addr} {d : Option Addr} {oe : Obj} {pn : List (Addr × Obj)} {e : Expr} {f : DE S} {pos : Pos} {n : Str} {W : WX} (T : XfC X.K C1) (hno : PySem.W.findIn X.K (.ref C1) n = some none) (hz : Zc (.ref C) d oe) (hf : ∃ vs, oe.data = .fields vs)
    (he : ED (X.suite a ((a, oe) :: pn)) W e f) (hb : attributeBase e n X.env (eval e X.env) = eval e X.env := by rfl) : ED (X.suite a ((a, oe) :: pn)) W (.Attribute e n pos) (fun ρ g => (f ρ g).bind (xfS a C d C1 n)) :=
  pe_weak (pe_xf T hno hz hf he hb) fun σ H Q ⟨μ, F, g, ρ, r, re, q⟩ => by
    refine ⟨μ, F, g, ρ, r, re, (Post.step (rel := relS X.K) q).imp fun x H1 ⟨μ1, F1, s1, g1, x1, r1, sv, p⟩ => ?_⟩
    unfold xfS at p
    split at p
    · rename_i a' C' d' gs
      by_cases hc : a' = a ∧ C' = C ∧ d' = d ∧ C = C1
      · rw [if_pos hc] at p
        obtain ⟨rfl, rfl, rfl, rfl⟩ := hc
        cases e2 : gs.lookup n with
        | none => rw [e2] at p; exact p.elim
        | some y =>
          rw [e2] at p
          cases sv with
          | d hx =>
            cases hx with
            | xn0 => cases e2
            | @xn1 _ _ dx fs _ h1 h2 =>
              obtain ⟨v, h3, h4⟩ := h2.lookup e2
              exact ⟨rfl, rfl, dx, fs, v, rfl, r1.ex _ _ h1, h3, Post.ok p r1 (.d h4)⟩
      · rw [if_neg hc] at p; exact p.elim
    · exact p.elim
end DL
/-! DLM: tuple * whole number, once and many times. -/
namespace DL
open PySem PySem.Spec PyProof.Rows L2
theorem mulT_one (a : Addr) (ys : Array Value) (m : Nat) (od : Option Addr) (os : Array (Option Value)) (t : Tok) :
    Meets (Builtin.«tuple.__mul__» ⟨[.ref a, .int 1 t], []⟩) (fun _ R s => s.heap.get? a = some { cls := .type "tuple", dict := od, data := .seq ys m, slots := os } ∧ R (.ok (.ret (.ref a))) s) :=
  .of_wp fun prog w A R s h => by
    obtain ⟨hp, g, d, tk, oo⟩ := s
    obtain ⟨hl, h⟩ := h
    have f1 := AutoSeq1.idx_int
    wp_walk using wpAny_loadPart' hl
    repeat (first
      | (refine wpAny_ite_false (decide_eq_false (by decide)) ?_; wp_walk using wpAny_loadPart' hl)
      | (refine wpAny_ite_true (by simp) ?_; wp_walk using wpAny_loadPart' hl)
      | (refine wpAny_ite_true (decide_eq_true (by simp)) ?_; wp_walk using wpAny_loadPart' hl))
    exact ⟨_, rfl, h⟩
def rRep2 (K : PySem.W.Frag) : R2 := fun x y H Q => ∃ a k zs, x = .ref a ∧ y = .int k ∧ SqT K H a zs ∧ zs ≠ [] ∧ 1 ≤ k ∧ (zs.length : Int) * k ≤ 1000000 ∧ (k = 1 → Q (.ref a) H) ∧ ∀ p, H p = none → Q (.ref p) (upd H p (.tup (List.replicate k.toNat zs).flatten))
section
variable {X : Cx}
theorem op_rep2 : OpR X (binaryOp .Mult) (rRep2 X.K) := by
  intro pins s σ H x y v u Q I q1 q2 hh
  obtain ⟨a, k, zs, rfl, rfl, hT, ne0, k1, few, once, more⟩ := hh
  cases q1
  obtain ⟨t, rfl⟩ := q2
  obtain ⟨ys, vv, ⟨⟨cl, od, dt, os⟩, hob, hcl, m, hdt⟩, hsz⟩ := I.tuple hT
  simp only at hcl hdt
  subst hcl hdt
  have len : ys.length = zs.length := vv.length.symm
  have ys0 : ys ≠ [] := fun z => ne0 (by
    rw [z] at len
    exact List.eq_nil_of_length_eq_zero len.symm)
  have many : ((ys.toArray.size : Nat) : Int) * k ≤ 1000000 := by
    rw [List.size_toArray, len]; exact few
  have z1 : 1 ≤ (zs.length : Int) := by
    cases zs with
    | nil => exact absurd rfl ne0
    | cons _ _ => simp only [List.length_cons]; omega
  have kk : k ≤ 1000000 := by
    have := Int.mul_le_mul_of_nonneg_right z1 (show 0 ≤ k by omega)
    omega
  have fl : (List.replicate k.toNat ys).flatten.length ≤ sizeLine := by
    rw [PyProof.Rows.lm_len_rep_flat, len, sizeLine_eq]
    have : ((k.toNat * zs.length : Nat) : Int) ≤ 1000000 := by
      rw [Int.natCast_mul, Int.toNat_of_nonneg (by omega), Int.mul_comm]; exact few
    omega
  refine wpAny_binaryOp_repeat_ref (T := "tuple") (U := "int") (by decide) ⟨_, hob, rfl⟩ (fun z => typeIs_int z k t) noFill_tuple_mul F.fills_int_mul F.slot_int_rmul repeat_tuple F.slot_int_index.lookup ?_
  refine call_meets F.slot_int_rmul (typeIs_int s k t) F.entry_int_rmul (F.args_int_rmul_2 _ _) (int_rmul_tuple k t a ys.toArray m od os) ⟨hob, rfl, ⟨_, hob, rfl⟩, ?_⟩
  by_cases e : k = 1
  · subst e
    exact call_meets F.slot_tuple_mul ⟨_, hob, rfl⟩ F.entry_tuple_mul (F.args_tuple_mul_2 _ _) (mulT_one a ys.toArray m od os t) ⟨hob, .ref a, H, I, rfl, once rfl⟩
  · have em : ys.toArray.isEmpty = false := by
      cases ys with
      | nil => exact absurd rfl ys0
      | cons _ _ => rfl
    refine call_meets F.slot_tuple_mul ⟨_, hob, rfl⟩ F.entry_tuple_mul (F.args_tuple_mul_2 _ _) (tuple_mulW a ys.toArray m od os k t (by
      rw [decide_eq_false (by omega), decide_eq_false (by omega)]; rfl) (by
      rw [em, Bool.false_or]; exact beq_eq_false_iff_ne.mpr e) (by
      rw [em, Bool.or_false]; exact decide_eq_false (by omega)) (by omega) (by
      unfold Builtin.Tuple.tupleTooMany
      rw [sizeLine_eq]
      exact decide_eq_false (by omega)) (by rw [size_rep, List.size_toArray]; exact fl)) ⟨hob, ?_⟩
    rw [size_rep]
    refine ⟨.ref s.heap.objs.size, _, I.laid (t' := s.toks) (o := .tup (List.replicate k.toNat zs).flatten) (fun _ _ z => Heap.get?_push_of_some _ z) (Nat.le_refl _) ?_, rfl, more _ (I.hok.fresh (Nat.le_refl _))⟩
    exact ⟨by rw [PyProof.Rows.lm_len_rep_flat, ← len, ← PyProof.Rows.lm_len_rep_flat]; exact fl, _, vv.rep k.toNat, IsTup.new _ _⟩
end
end DL
/-! DL9: the tape's display, * with tuples, dict displays. -/
namespace DL
open PySem PySem.Spec PyProof.Rows L2
section
variable {X : Cx} {W : WX} {e a b : Expr} {es : List Expr} {pos : Pos} {fl : DE (List S)} {f f1 f2 : DE S}
/-! ### [x, .., [n, ..], ..]: a list with one list of ints in it -/
def intsD : List D → Option (List Int)
  | [] => some []
  | .int i :: r => (intsD r).map (i :: ·)
  | _ => none
theorem intsD_ok {K : PySem.W.Frag} {F : Hp} : ∀ {vs : List V} {ds : List D} {is : List Int}, DnL K F vs ds → intsD ds = some is → vs = is.map V.int
  | _, _, _, .nil, h => by cases h; rfl
  | _, d :: ds, is, .cons (v := v) h r, e => by
    cases h <;> first | (cases e; done) | skip
    rename_i i
    have e' : (intsD ds).map (i :: ·) = some is := e
    cases q : intsD ds with
    | none => rw [q] at e'; cases e'
    | some js =>
      rw [q] at e'
      cases e'
      rw [List.map_cons, intsD_ok r q]
/-- data, one cell, data -/
def tpSplit : List S → Option (List D × Nat × List D)
  | [] => none
  | .d x :: r => (tpSplit r).map fun y => (x :: y.1, y.2)
  | .c n :: r => (allD r).map fun ds => ([], n, ds)
  | .i _ :: _ => none
theorem tpSplit_ok {K : PySem.W.Frag} {μ : Mp} {F : Hp} : ∀ {vs : List V} {ss : List S} {pre post : List D} {n : Nat}, SnL K μ F vs ss → tpSplit ss = some (pre, n, post) → ∃ xs b l ys, vs = xs ++ V.ref b :: ys ∧ μ[n]? = some (b :: l) ∧ DnL K F xs pre ∧ DnL K F ys post
  | _, _, _, _, _, .nil, h => by cases h
  | _, s :: r, pre, post, n, .cons (a := v) h t, e => by
    cases h with
    | d h =>
      rename_i x
      have e' : (tpSplit r).map (fun y => (x :: y.1, y.2)) = some (pre, n, post) := e
      cases q : tpSplit r with
      | none => rw [q] at e'; cases e'
      | some y =>
        obtain ⟨y1, y2, y3⟩ := y
        rw [q] at e'
        cases e'
        obtain ⟨xs, b, l, ys, h1, h2, h3, h4⟩ := tpSplit_ok t q
        exact ⟨v :: xs, b, l, ys, by rw [h1]; rfl, h2, .cons h h3, h4⟩
    | @c m b l h =>
      have e' : (allD r).map (fun ds => (([] : List D), m, ds)) = some (pre, n, post) := e
      cases q : allD r with
      | none => rw [q] at e'; cases e'
      | some ds =>
        rw [q] at e'
        cases e'
        exact ⟨[], b, l, _, rfl, h, .nil, allD_ok t q⟩
    | i h => cases e
def tapD (fl : DE (List S)) : DE S := fun ρ g => (fl ρ g).bind fun xs g1 => match tpSplit xs with
  | some (pre, n, post) => match g1[n]? with
    | some (.lst ds) => match intsD ds with
      | some cs => if xs.length ≤ 1000 then .ok (.c g1.length) (g1.set n .dead ++ [.tp pre cs post]) else .bad
      | none => .bad
    | _ => .bad
  | none => .bad
theorem ed_tap (h : LD X W es fl) : ED X W (.List es pos) (tapD fl) :=
  pe_weak (pe_lst h) fun σ H Q ⟨μ, F, g, ρ, r, re, q⟩ => by
    obtain ⟨μ0, F0, g0, ρ0, r0, re0, p0⟩ := tDL.step r re q
    refine ⟨μ0, F0, g0, ρ0, r0, re0, p0.imp fun x H1 ⟨μ1, F1, a1, g1, r1, re1, s1, p1⟩ => ?_⟩
    cases e1 : tpSplit a1 with
    | none => simp only [e1] at p1; exact p1.elim
    | some y =>
      obtain ⟨pre, n, post⟩ := y
      simp only [e1] at p1
      obtain ⟨xs, b, l, ys, rfl, hm, dp, dq⟩ := tpSplit_ok s1 e1
      obtain ⟨cc, hc, ok⟩ := r1.cell hm
      rw [hc] at p1
      cases cc <;> first | exact False.elim p1 | skip
      rename_i ds
      dsimp only at p1
      cases e2 : intsD ds with
      | none => rw [e2] at p1; exact p1.elim
      | some cs =>
        rw [e2] at p1
        dsimp only at p1
        by_cases hl : a1.length ≤ 1000
        · rw [if_pos hl] at p1
          obtain ⟨b', z, hF, zs, h5, h6⟩ := id ok
          cases z
          have hz := intsD_ok h6 e2
          subst hz
          refine ⟨by rw [Paired.length s1]; exact le1000 hl, fun p hp => ?_⟩
          have hbp : b ≠ p := ne_of_none h5 hp
          have rk : Rp X.K μ1 F1 H1 (g1.set n .dead) := r1.kill
          have rj : Rp X.K μ1 F1 (upd H1 p (.lst (xs ++ V.ref b :: ys))) (g1.set n .dead) := rk.junk hp
          have ra := rj.add (fp := [p, b]) (c := .tp pre cs post) ⟨p, b, rfl, Ne.symm hbp, r1.fresh hp, hF, xs, ys, upd_same, dp, dq, by rw [upd_ne hbp]; exact h5⟩ (fun m fq d c h1 h2 hd hc' hq => by
            have hmn : m ≠ n ∧ g1[m]? = some d := by
              by_cases qn : m = n
              · subst qn
                rw [List.getElem?_set_self (List.getElem?_eq_some_iff.mp hc).1] at h2
                exact absurd (Option.some.inj h2).symm hd
              · rw [List.getElem?_set_ne (Ne.symm qn)] at h2
                exact ⟨qn, h2⟩
            simp at hc'
            rcases hc' with rfl | rfl
            · exact r1.ne hp h1 hmn.2 hd c hq rfl
            · exact r1.dj n m _ fq _ d c hm h1 hc hmn.2 (by intro z; cases z) hd (Ne.symm hmn.1) (by simp) hq)
          exact p1 (μ1 ++ [[p, b]]) F1 _ _ Ext.push ra (.c (l := [b]) (by rw [← r1.len]; simp))
        · rw [if_neg hl] at p1; exact p1.elim
/-! ### * -/
def mulS : S → S → G → R S := fun a b g => match a with
  | .d (.tup ds) => match b with
    | .d (.int k) => if ds ≠ [] ∧ 1 ≤ k ∧ (ds.length : Int) * k ≤ 1000000 then .ok (.d (.tup (List.replicate k.toNat ds).flatten)) g else .bad
    | _ => .bad
  | _ => opD mulD a b g
theorem DnL.rep {K : PySem.W.Frag} {F : Hp} {vs : List V} {ds : List D} (h : DnL K F vs ds) : ∀ n : Nat, DnL K F (List.replicate n vs).flatten (List.replicate n ds).flatten
  | 0 => .nil
  | n + 1 => by
    rw [List.replicate_succ, List.replicate_succ, List.flatten_cons, List.flatten_cons]
    exact h.append (DnL.rep h n)
def rMulX (K : PySem.W.Frag) : R2 := fun x y H Q => rI CMulW (fun i j => .int (i * j)) x y H Q ∨ rRep2 K x y H Q
theorem op_mulX : OpR X (binaryOp .Mult) (rMulX X.K) := opr_or op_mulW op_rep2
theorem opd_mulX {K : PySem.W.Frag} : OpD K (rMulX K) mulS := by
  intro μ F H g E x y a b Q rp sx sy p
  unfold mulS at p
  split at p
  · rename_i ds
    split at p
    · rename_i k
      by_cases hc : ds ≠ [] ∧ 1 ≤ k ∧ (ds.length : Int) * k ≤ 1000000
      · rw [if_pos hc] at p
        obtain ⟨hne, h1, h3⟩ := hc
        cases sx with
        | d sx =>
        cases sx with
        | @tup l xs _ hq hl =>
        cases sy with
        | d sy =>
        cases sy
        have hqH := ex_t rp.ex hq
        refine .inr ⟨l, k, xs, rfl, rfl, hqH, ?_, h1, by rw [hl.length]; exact h3, fun e => ?_, fun q hq2 => ?_⟩
        · intro z
          subst z
          cases hl
          exact hne rfl
        · subst e
          have e2 : (List.replicate (1 : Int).toNat ds).flatten = ds := by simp
          rw [e2] at p
          exact Post.ok p rp (.d (.tup hq hl))
        · exact p μ _ _ _ (Ext.new (rp.fresh hq2)) (rp.new hq2) (.d (.tup (SqT.of upd_same) ((hl.rep k.toNat).mono (Ext.new (μ := μ) (rp.fresh hq2)).f)))
      · rw [if_neg hc] at p; exact p.elim
    · exact p.elim
  · exact .inl (opd_mul μ F H g E x y a b Q rp sx sy p)
theorem ed_mulX (h1 : ED X W a f1) (h2 : ED X W b f2) : ED X W (.BinOp a .Mult b pos) (bin2 f1 f2 mulS) := ed_bin (fun _ _ p q => pe_op op_mulX p q) h1 h2 opd_mulX
/-! ### dict displays, as data -/
theorem ed_dct0 : ED X W (.Dict [] [] pos) (cD (.dct [])) := pe_weak pe_dnewK fun σ H Q ⟨μ, F, g, ρ, r, re, q⟩ => fun p hp =>
  q μ _ _ _ (Ext.new (r.fresh hp)) (r.new hp) (.d (.dct upd_same .nil))
theorem ed_dct {keys : List (Option Expr)} {values : List Expr} {trs : List (TE × TE)} {kvs : List (Key × V)} {ds : List (Key × D)} (h : PPs X pos keys values trs) (hall : keys.all (·.isSome) = true) (hlen : keys.length = values.length) (h0 : keys ≠ []) (h15 : keys.length ≤ 15)
    (ht : ∀ σ H Q, tPairs trs σ H Q = Q (kvs.map fun kv => (kV kv.1, kv.2)) H) (hl : kvs.length ≤ 15) (hd : ∀ F, DnK X.K F (mergeK [] kvs) ds) : ED X W (.Dict keys values pos) (cD (.dct ds)) :=
  pe_weak (pe_disp h hall hlen h0 h15) fun σ H Q ⟨μ, F, g, ρ, r, re, q⟩ => fun p hp => by
    rw [ht]
    refine ⟨upd_same, kvs, rfl, hl, ?_⟩
    rw [upd_upd]
    exact q μ _ _ _ (Ext.new (r.fresh hp)) (r.new hp) (.d (.dct upd_same (hd _)))
/-- - x -/
def negD : D → Option D
  | .int i => some (.int (-i))
  | _ => none
@[simp] def negS : S → G → R S := fun s g => match s with
  | .d (.int i) => .ok (.d (.int (-i))) g
  | _ => .bad
theorem ed_neg (h : ED X W a f1) : ED X W (.UnaryOp .USub a pos) (un1D negS f1) :=
  pe_weak (pe_un un_neg h) fun σ H Q ⟨μ, F, g, ρ, r, re, q⟩ => by
    refine ⟨μ, F, g, ρ, r, re, (Post.step (rel := relS X.K) q).imp fun x H1 ⟨μ1, F1, s1, g1, x1, r1, sv, p⟩ => ?_⟩
    unfold negS at p
    split at p
    · rename_i i
      cases sv with
      | d hx =>
        cases hx
        exact ⟨i, rfl, Post.ok p r1 (.d (.int _))⟩
    · exact p.elim
end
end DL
/-! DL10: ends. -/
namespace DL
open PySem PySem.Spec PyProof.Rows L2
def spLaw (K : PySem.W.Frag) : Sp := fun vs H Q _ => ∃ (a : Addr) (ns : List Int), vs = [.ref a] ∧ SqL K H a (ns.map V.int) ∧ ns.length ≤ 63 ∧ (∀ z ∈ ns, Builtin.Int.intBits z ≤ 1048576) ∧ ∀ H', Q (.bl true) H'
theorem law_imp {P : Program} {w : World} {K : PySem.W.Frag} {mg : Str → Option Value} {base : Heap} {k : Nat} {f : Addr} {fd : FuncData} {x : Str} {φ : DF} (F : FnD P w K mg base k f fd [x] φ)
    (h : ∀ ns : List Int, ns.length ≤ 63 → (∀ z ∈ ns, Builtin.Int.intBits z ≤ 1048576) → ∃ g, φ [.d (.scr ns)] [] = .ok (.d (.bl true)) g) : FnOk P w K mg base (L2.CX P w) k f fd [x] (spLaw K) := by
  refine FnOk.imp F fun vs H Q E ⟨a, ns, e, hs, hl, hb, q⟩ => ?_
  subst e
  obtain ⟨g, hg⟩ := h ns hl hb
  refine ⟨[], H, [], [.d (.scr ns)], ⟨fun _ _ e => e, rfl, fun n fp c h1 _ => by simp at h1, fun n m fp fq c d a h1 => by simp at h1⟩, .cons (.d (.scr hs)) .nil, rfl, ?_⟩
  rw [hg]
  intro μ' F' H' v _ _ sv
  cases sv with
  | d sv => cases sv; exact q H'
theorem law_end {P : Program} {w : World} {K : PySem.W.Frag} (H : Hp) (a : Addr) (ns : List Int) (hl : ns.length ≤ 63) (hb : ∀ z ∈ ns, Builtin.Int.intBits z ≤ 1048576) (hS : SqL K H a (ns.map V.int)) : spLaw K [.ref a] H (fun v _ => v = .bl true) fun _ _ _ => False :=
  ⟨a, ns, rfl, hS, hl, hb, fun _ => rfl⟩
theorem cx_end {P : Program} {w : World} (H : Hp) (s : Shared) (e : Value) (s' : Shared) (h : L2.CX P w [] H s (fun _ _ _ => False) e s') : False := by
  first
    | exact h
    | (obtain ⟨_, _, _, _, _, _, _, _, _, _, _, _, z⟩ := h; exact z.elim)
theorem xargs0 {p1 : Pos} (fd : FuncData) (us : List Value) (h1 : fd.params = PySem.DLX.iA0 p1) (h2 : fd.defaults = .none) (h3 : fd.kwdefaults = .none) (h4 : us.length = 1) : bindArgs fd ⟨us, []⟩ = pure ((("self" : Str) :: []).zip us) :=
  match us, h4 with
  | [_], _ => by
    cases fd
    dsimp only at h1 h2 h3
    subst h1 h2 h3
    rfl
theorem pe_gc {X : Cx} {x : Str} {pos : Pos} {v : V} (hg : Gl X x) (h : ∃ u, X.mg x = some u ∧ RelV v u) (hd : (x == ("__debug__" : Str)) = false := by decide) : PE X (.Name x pos) (tC v) := by
  obtain ⟨u, hm, r⟩ := h
  exact pe_glob hg hm r hd
end DL
/-! DL11: defs that call themselves, min and max, comparisons of nested data, += . -/
namespace DL
open PySem PySem.Spec PyProof.Rows L2
/-! ### a def that calls itself: n calls deep -/
def recD (step : DF → DF) : Nat → DF
  | 0 => fun _ _ => .bad
  | n + 1 => step (recD step n)
theorem fn_bad {P : Program} {w : World} {K : PySem.W.Frag} {mg : Str → Option Value} {base : Heap} {k : Nat} {f : Addr} {fd : FuncData} {ps : List Str} : FnD P w K mg base k f fd ps (fun _ _ => .bad) :=
  ⟨fun vs H Q E ⟨_, _, _, _, _, _, _, z⟩ => z.elim, fun A outer s H args us vs Q E _ _ _ _ ⟨_, _, _, _, _, _, _, z⟩ => z.elim⟩
theorem fn_rec {P : Program} {w : World} {K : PySem.W.Frag} {mg : Str → Option Value} {base : Heap} {f : Addr} {fd : FuncData} {ps : List Str} {step : DF → DF} (k0 : Nat)
    (h : ∀ k psi, k0 ≤ k → FnD P w K mg base k f fd ps psi → FnD P w K mg base (k + 1) f fd ps (step psi)) : ∀ n, FnD P w K mg base (k0 + n) f fd ps (recD step n)
  | 0 => fn_bad
  | n + 1 => h (k0 + n) _ (Nat.le_add_right _ _) (fn_rec k0 h n)
/-! ### min, max of two whole numbers -/
def un2 (f : D → D → Option D) : List S → G → R S := fun ss g => match ss with
  | [s, t] => opD f s t g
  | _ => .bad
def minD : D → D → Option D := fI fun i j => .int (if j < i then j else i)
def maxD : D → D → Option D := fI fun i j => .int (if j > i then j else i)
section
variable {K : PySem.W.Frag}
theorem cd_2 {op : Int → Int → Int} {f : D → D → Option D} (hf : f = fI fun i j => .int (op i j)) : CallD K (fun xs H Q => ∃ i j, xs = [.int i, .int j] ∧ Q (.int (op i j)) H) (un2 f) := by
  intro μ F H g E vs ss Q rp sv p
  unfold un2 at p
  cases sv with
  | nil => exact p.elim
  | cons s1 t =>
    cases t with
    | nil => exact p.elim
    | cons s2 t =>
      cases t with
      | cons => exact p.elim
      | nil =>
        rename_i v1 t1 v2 t2
        have z := opd_I0 (K := K) (g := fun i j => .int (op i j)) (f := fun i j => D.int (op i j)) (fun _ _ _ => .int _) μ F H g E v1 v2 t1 t2 Q rp s1 s2 (by rw [← hf]; exact p)
        obtain ⟨i, j, e1, e2, q⟩ := z
        exact ⟨i, j, by rw [e1, e2], q⟩
theorem cd_min : CallD K (fun xs H Q => ∃ i j, xs = [.int i, .int j] ∧ Q (.int (if j < i then j else i)) H) (un2 minD) := cd_2 (op := fun i j => if j < i then j else i) rfl
theorem cd_max : CallD K (fun xs H Q => ∃ i j, xs = [.int i, .int j] ∧ Q (.int (if j > i then j else i)) H) (un2 maxD) := cd_2 (op := fun i j => if j > i then j else i) rfl
end
end DL
namespace DL
open PySem PySem.Spec PyProof.Rows L2
/-! ### <, <= of nested data -/
def notNon : PyData → Bool
  | .none => false
  | _ => true
theorem notNon_ne {x : PyData} (h : notNon x = true) : x ≠ .none := fun z => by rw [z] at h; cases h
def ltP (x y : PyData) : Option Bool := if PySem.W.alike x y = true ∧ notNon x = true ∧ x.depth ≤ 64 then some (PySem.W.dataLt x y) else none
def ltF (d e : D) : Option Bool := match toPy d, toPy e with
  | some x, some y => ltP x y
  | _, _ => none
def leF (d e : D) : Option Bool := match toPy d, toPy e with
  | some x, some y => if PySem.W.alike x y = true ∧ notNon x = true ∧ x.depth ≤ 64 then some (!PySem.W.dataLt y x) else none
  | _, _ => none
def ltX (d e : D) : Option D := match ltD d e with
  | some z => some z
  | none => (ltF d e).map D.bl
def leX (d e : D) : Option D := match leD d e with
  | some z => some z
  | none => (leF d e).map D.bl
def rLtP (K : PySem.W.Frag) : R2 := fun x y H Q => ∃ d e, Dp K H x d ∧ Dp K H y e ∧ PySem.W.alike d e = true ∧ d ≠ .none ∧ d.depth ≤ 64 ∧ Q (.bl (PySem.W.dataLt d e)) H
def rLeP (K : PySem.W.Frag) : R2 := fun x y H Q => ∃ d e, Dp K H x d ∧ Dp K H y e ∧ PySem.W.alike d e = true ∧ d ≠ .none ∧ d.depth ≤ 64 ∧ Q (.bl (!PySem.W.dataLt e d)) H
theorem depth_room {A : Around} {d e : PyData} (hu : A.units + 64 < cLine) (hd : d.depth ≤ 64) : A.units + min d.depth e.depth < cLine := by
  have := Nat.min_le_left d.depth e.depth
  omega
section
variable {X : Cx} {K : PySem.W.Frag}
theorem op_ltP (hu : X.A.units + 64 < cLine) : OpR X (compareOp .Lt) (rLtP X.K) := by
  intro pins s σ H x y vx vy Q inv hx hy ⟨d, e, d1, d2, al, nn, dp, q⟩
  obtain ⟨as, ra⟩ := Dp.reads inv d x vx d1 hx
  obtain ⟨bs, rb⟩ := Dp.reads inv e y vy d2 hy
  exact PySem.W.lt_data ra rb al nn (depth_room hu dp) ⟨.bl _, H, inv, rfl, q⟩
theorem op_leP (hu : X.A.units + 64 < cLine) : OpR X (compareOp .LtE) (rLeP X.K) := by
  intro pins s σ H x y vx vy Q inv hx hy ⟨d, e, d1, d2, al, nn, dp, q⟩
  obtain ⟨as, ra⟩ := Dp.reads inv d x vx d1 hx
  obtain ⟨bs, rb⟩ := Dp.reads inv e y vy d2 hy
  exact PySem.W.le_data ra rb al nn (depth_room hu dp) ⟨.bl _, H, inv, rfl, q⟩
def rLtX (K : PySem.W.Frag) : R2 := fun x y H Q => rI0 (fun i j => .bl (decide (i < j))) x y H Q ∨ rLtP K x y H Q
def rLeX (K : PySem.W.Frag) : R2 := fun x y H Q => rI0 (fun i j => .bl (decide (i ≤ j))) x y H Q ∨ rLeP K x y H Q
theorem op_ltX (hu : X.A.units + 64 < cLine) : OpR X (compareOp .Lt) (rLtX X.K) := opr_or op_lt (op_ltP hu)
theorem op_leX (hu : X.A.units + 64 < cLine) : OpR X (compareOp .LtE) (rLeX X.K) := opr_or op_le (op_leP hu)
theorem fI_some {f : Int → Int → D} {a b z : D} (h : fI f a b = some z) : ∃ i j, a = .int i ∧ b = .int j ∧ z = f i j := by
  unfold fI at h
  split at h
  · rename_i i j
    exact ⟨i, j, rfl, rfl, (Option.some.inj h).symm⟩
  · cases h
theorem opd_ltX : OpD K (rLtX K) (opD ltX) := OpD.of fun F H x y a b z Q ex hx hy e q => by
  unfold ltX at e
  cases h : ltD a b with
  | some z' =>
    rw [h] at e
    cases e
    obtain ⟨i, j, rfl, rfl, rfl⟩ := fI_some h
    cases hx; cases hy
    exact .inl ⟨i, j, rfl, rfl, q _ (.bl _)⟩
  | none =>
    rw [h] at e
    unfold ltF ltP at e
    cases h1 : toPy a with
    | none => rw [h1] at e; cases e
    | some p =>
      cases h2 : toPy b with
      | none => rw [h1, h2] at e; cases e
      | some p' =>
        rw [h1, h2] at e
        dsimp only at e
        by_cases hc : PySem.W.alike p p' = true ∧ notNon p = true ∧ p.depth ≤ 64
        · rw [if_pos hc] at e
          cases e
          exact .inr ⟨p, p', toPy_ok hx h1, toPy_ok hy h2, hc.1, notNon_ne hc.2.1, hc.2.2, q _ (.bl _)⟩
        · rw [if_neg hc] at e; cases e
theorem opd_leX : OpD K (rLeX K) (opD leX) := OpD.of fun F H x y a b z Q ex hx hy e q => by
  unfold leX at e
  cases h : leD a b with
  | some z' =>
    rw [h] at e
    cases e
    obtain ⟨i, j, rfl, rfl, rfl⟩ := fI_some h
    cases hx; cases hy
    exact .inl ⟨i, j, rfl, rfl, q _ (.bl _)⟩
  | none =>
    rw [h] at e
    unfold leF at e
    cases h1 : toPy a with
    | none => rw [h1] at e; cases e
    | some p =>
      cases h2 : toPy b with
      | none => rw [h1, h2] at e; cases e
      | some p' =>
        rw [h1, h2] at e
        dsimp only at e
        by_cases hc : PySem.W.alike p p' = true ∧ notNon p = true ∧ p.depth ≤ 64
        · rw [if_pos hc] at e
          cases e
          exact .inr ⟨p, p', toPy_ok hx h1, toPy_ok hy h2, hc.1, notNon_ne hc.2.1, hc.2.2, q _ (.bl _)⟩
        · rw [if_neg hc] at e; cases e
end
end DL
/-! DLE: enumerate over tuples. -/
namespace PySem
namespace DLE
open Sem (wp)
/-- enumerate(v) makes its two cells, v anything whose iterator is a new object -/
theorem meets_enum1 {v : Value} {o : Obj} {H : Heap → Prop} (B : Begins v o H) :
    Meets (Builtin.«enumerate.__new__» ⟨[.type "enumerate", v], []⟩) (fun _ R s => H s.heap ∧
      R (.ok (.ret (.ref (s.heap.push o).objs.size))) { s with heap := (s.heap.push o).push { cls := .type "enumerate", data := .fields #[.none, .bool false, .ref s.heap.objs.size, rawInt 0, .none, .none] } }) :=
  .of_wp fun prog w A R s ⟨hv, goal⟩ => by
    obtain ⟨hp, g, d, tk, os⟩ := s
    have subE := sub_enumerate
    have step : ∀ {A' : Around} {E : Value → Shared → Prop} {Q : Value → Shared → Prop}, Q (.ref hp.objs.size) ⟨hp.push o, g, d, tk, os⟩ → wpAny (model prog w) A' (pyIter v) Q E ⟨hp, g, d, tk, os⟩ :=
      fun z => B.iter prog w _ _ ⟨hp, g, d, tk, os⟩ _ hv z
    wp_walk using step
    refine wpAny_stack_any fun st => wpAny_pure ?_
    split
    · rename_i c _ _ _ _ _
      cases (c == Value.type "enumerate") <;> (wp_walk using step; exact ⟨_, rfl, goal⟩)
    · wp_walk using step
      exact ⟨_, rfl, goal⟩
section
variable {prog : Program} {w : World} {A : Around} {E : Value → Shared → Prop} {s : Shared}
theorem call_enum1 {v : Value} {o : Obj} {H : Heap → Prop} {Q : Value → Shared → Prop} (B : Begins v o H) (hv : H s.heap)
    (h : ∀ h', IsEnum h' (s.heap.objs.size + 1) s.heap.objs.size 0 .none → h'.get? s.heap.objs.size = some o → (∀ b ob, s.heap.get? b = some ob → h'.get? b = some ob) → Q (.ref (s.heap.objs.size + 1)) { s with heap := h' }) :
    wpAny (model prog w) A (call (.type "enumerate") [v]) Q E s := by
  refine callType_new F.called_enumerate (by decide) (F.typeCall_enumerate_1 _) (F.newCall_enumerate_1 _) (fun obj => F.args_object_init_2 obj _) F.entry_enumerate_new (meets_enum1 B) ⟨hv, ?_⟩
  have size1 : (s.heap.push o).objs.size = s.heap.objs.size + 1 := Heap.size_push ..
  show _ ∧ _
  rw [size1]
  have cell : IsEnum ((s.heap.push o).push { cls := .type "enumerate", data := .fields #[.none, .bool false, .ref s.heap.objs.size, rawInt 0, .none, .none] }) (s.heap.objs.size + 1) s.heap.objs.size 0 .none := by
    have z := Heap.get?_push_size (s.heap.push o) (o := { cls := .type "enumerate", data := .fields #[.none, .bool false, .ref s.heap.objs.size, rawInt 0, .none, .none] }) rfl
    rw [size1] at z
    exact z
  exact ⟨⟨_, cell, rfl⟩, h _ cell (Heap.get?_push_of_some _ (Heap.get?_push_size _ B.free)) fun b ob x => Heap.get?_push_of_some _ (Heap.get?_push_of_some _ x)⟩
end
end DLE
end PySem
namespace DL
open PySem PySem.Spec PyProof.Rows L2
/-- the tuple at a, each item in a new pair with its number -/
def Iet (K : PySem.W.Frag) (a : Addr) : It :=
  ⟨fun i H => ∃ (xs : List V) (x : V), SqT K H a xs ∧ xs[i]? = some x, fun i H v H' => ∃ T x, v = .ref T ∧ H T = none ∧ H' = upd H T (.tup [.int (i : Nat), x]) ∧ ∀ xs, SqT K H a xs → xs[i]? = some x, fun i H => ∃ xs : List V, SqT K H a xs ∧ xs.length = i⟩
theorem tupIter_ne {h : Heap} {t it : Addr} {i : Nat} {items : Array Value} (a : h.IsTuple t items) (b : h.IsTupleIter it t i) : t ≠ it := fun z => by
  obtain ⟨o1, e1, c1, _⟩ := a
  obtain ⟨o2, e2, c2, _⟩ := b
  rw [z, e2] at e1
  cases e1
  exact absurd (Value.type.inj (c1.symm.trans c2)) (by decide)
theorem tupEnum_ne {h : Heap} {t e it : Addr} {c : Int} {old : Value} {items : Array Value} (a : h.IsTuple t items) (b : IsEnum h e it c old) : e ≠ t := fun z => by
  obtain ⟨o1, e1, c1, _⟩ := a
  have e2 := b
  unfold IsEnum at e2
  rw [z, e1] at e2
  cases e2
  exact absurd (Value.type.inj c1) (by decide)
theorem turn_enumT {P : Program} {w : World} {K : PySem.W.Frag} {elts : List Expr} {kk : Nat} {tpos : Pos} (a e it : Addr) :
    Turn P w K (.Tuple elts kk tpos) (Iet K a) [e, it] e (fun i h => (∃ old, IsEnum h e it ((i : Nat) : Int) old) ∧ h.IsTupleIter it a i ∧ e ≠ it) where
  mem := List.mem_cons_self
  obj := fun i h ⟨⟨old, he⟩, ⟨o, ho, hc, hd⟩, _⟩ b hb => by
    rcases List.mem_cons.mp hb with z | hb
    · subst z
      exact ⟨_, he, fun v q => nomatch q⟩
    · obtain rfl : b = it := by simpa using hb
      exact ⟨o, ho, fun v q => by rw [hd] at q; cases q⟩
  keep := fun i h h' ⟨⟨old, he⟩, hi, hne⟩ k => ⟨⟨old, k e List.mem_cons_self _ he⟩, hi.at fun o q => k it (by simp) o q, hne⟩
  item := by
    intro X hP hw hK hc i pins s σ H E I hf st hg
    subst hP hw hK
    obtain ⟨⟨old, he⟩, hit, hne⟩ := st
    obtain ⟨xs, x, hq, hx⟩ := hg
    obtain ⟨its, rv, p, _⟩ := I.tuple hq
    have tp : s.heap.IsTuple a its.toArray := p
    obtain ⟨u, hu, ru⟩ := rv.get hx
    have hlt : i < its.toArray.size := by
      have := (List.getElem?_eq_some_iff.mp hu).1
      simpa using this
    have ea := tupEnum_ne tp he
    have sizeE : e < s.heap.objs.size := Heap.lt_size he
    have sizeI : it < s.heap.objs.size := by
      obtain ⟨_, z, _⟩ := hit
      exact Heap.lt_size z
    refine wpAny_pyNext_enum_itemD (Draws.tuple (prog := X.prog) (w := X.w) (A := X.A.in1) (I.ok.hd hc) it a (tupIter_ne tp hit) its.toArray) he ⟨hit, tp⟩ hlt hne (by simp [hne, ea]) fun y h1 tk hy out st1 pair _ old1 => ?_
    have ey : y = u := by
      have z : its.toArray[i]? = some u := by simpa using hu
      have hy' : its.toArray[i]? = some y := hy
      rw [z] at hy'
      cases hy'
      rfl
    subst ey
    refine ⟨_, rfl, wpAny_letOwnedTupleGo_enum (s := { s with heap := h1, toks := tk + 1 }) out fun h2 back sb => ?_⟩
    have pair2 : h2.get? s.heap.objs.size = some { cls := .type "tuple", data := .seq #[.int i tk, y] } := (sb.2 _ (Nat.ne_of_gt sizeE)).trans pair
    have laid : ObjOk X.prog X.w (upd H s.heap.objs.size (.tup [.int (i : Nat), x])) h2 s.heap.objs.size (.tup [.int (i : Nat), x]) :=
      ⟨by show 2 ≤ sizeLine; decide, [.int i tk, y], .cons ⟨_, rfl⟩ (.cons ru .nil), ⟨_, pair2, rfl, _, rfl⟩⟩
    have J : Inv X pins σ (upd H s.heap.objs.size (.tup [.int (i : Nat), x])) { s with heap := h2, toks := tk + 1 } :=
      I.turnedNew (ch := [e, it]) (fun b ob hb z => (sb.2 b (fun q => hb (by simp [q]))).trans (old1 b ob (fun q => hb (by simp [q])) (fun q => hb (by simp [q])) z)) hf (Nat.le_refl _) laid
    refine ⟨.ref s.heap.objs.size, _, J, rfl, ⟨_, x, rfl, I.hok.fresh (Nat.le_refl _), rfl, fun ys hys => ?_⟩, ⟨⟨y, ?_⟩, st1.1.at fun o z => (sb.2 it (Ne.symm hne)).trans z, hne⟩, fun b hb => ?_⟩
    · rw [I.tuple_inj hys hq]; exact hx
    · rw [show ((i + 1 : Nat) : Int) = (i : Int) + 1 by omega]
      exact back
    · have small : b < s.heap.objs.size := by
        rcases List.mem_cons.mp hb with z | hb2
        · rw [z]; exact sizeE
        · have z : b = it := by simpa using hb2
          rw [z]; exact sizeI
      rw [upd_ne (Nat.ne_of_lt small)]
      exact (hf b hb).1
  done := by
    intro X hP hw hK hc i pins s σ H E I hf st hg
    subst hP hw hK
    obtain ⟨⟨old, he⟩, hit, hne⟩ := st
    obtain ⟨xs, hq, hx⟩ := hg
    obtain ⟨its, rv, p, _⟩ := I.tuple hq
    have tp : s.heap.IsTuple a its.toArray := p
    obtain ⟨f0, f1, f2, f3, f4, f5⟩ := hf it (by simp)
    have ei : its.toArray.size = i := by
      rw [List.size_toArray, ← hx]
      exact rv.length.symm
    exact wpAny_pyNext_enum_endD (Draws.tuple (prog := X.prog) (w := X.w) (A := X.A.in1) (I.ok.hd hc) it a (tupIter_ne tp hit) its.toArray) he ⟨by rw [ei]; exact hit, tp⟩ fun h1 old1 => ⟨rfl, I.turned (t' := s.toks) (fun b ob hb z => old1 b ob hb z) f0 f1 f3 f4 f5⟩
  self := fun A i s Q E st h => let ⟨⟨_, he⟩, _⟩ := st; wpAny_pyIter_enum he h
/-- enumerate(x): a list as it stands, or a tuple -/
def iEnumX (K : PySem.W.Frag) (ta : TA) : TI := fun σ H R => ta σ H fun vs H1 => ∃ a xs, vs = [.ref a] ∧ ((SqL K H1 a xs ∧ R (Ite K a) H1) ∨ (SqT K H1 a xs ∧ R (Iet K a) H1))
theorem pi_enumX {X : Cx} {e : Expr} {ta : TA} {p pos tpos : Pos} {elts : List Expr} {kk : Nat} (hg : Gl X "enumerate") (hm : X.mg "enumerate" = none) (ha : PA X [e] ta) (hs : starEach [e] X.env = [(false, eval e X.env)] := by rfl) :
    PI X (.Tuple elts kk tpos) (.Call (.Name "enumerate" p) [e] [] pos) (iEnumX X.K ta) := by
  refine ⟨fun pins s σ H R I h => Call_ (ld_blt I hg hm boot_enumerate (PyProof.Rows.callWith_type1 (thn (ha.run pos pins s σ H _ I h) fun us s1 ⟨vs, H1, I1, r1, a, xs, ev, q⟩ => ?_) hs rfl))⟩
  subst ev
  cases r1 with
  | cons r rr =>
  cases rr
  cases r
  have fp2 : ∀ b ∈ [s1.heap.objs.size + 1, s1.heap.objs.size], FpOk X pins H1 b := fun b hb => by
    have hle : s1.heap.objs.size ≤ b := by
      rcases List.mem_cons.mp hb with z | z
      · rw [z]; exact Nat.le_succ _
      · rw [show b = s1.heap.objs.size by simpa using z]; exact Nat.le_refl _
    exact I1.fpOk hle (I1.hok.fresh hle)
  rcases q with ⟨hq, q⟩ | ⟨hq, q⟩
  · obtain ⟨its, rv, pl, _⟩ := I1.list hq
    refine call_enumerate_list pl.isList fun h' he hit _ hk => wpAny_pyIter_enum he ?_
    exact ⟨s1.heap.objs.size + 1, [s1.heap.objs.size + 1, s1.heap.objs.size], _, _, H1, rfl, I1.kept (t' := s1.toks) hk, turn_enum a (s1.heap.objs.size + 1) s1.heap.objs.size, ⟨⟨.none, he⟩, hit, Nat.succ_ne_self _⟩, fp2, q⟩
  · obtain ⟨its, rv, pl, _⟩ := I1.tuple hq
    refine PySem.DLE.call_enum1 (begins_tuple a its.toArray) (show s1.heap.IsTuple a its.toArray from pl) fun h' he hit hk => wpAny_pyIter_enum he ?_
    exact ⟨s1.heap.objs.size + 1, [s1.heap.objs.size + 1, s1.heap.objs.size], _, _, H1, rfl, I1.kept (t' := s1.toks) hk, turn_enumT a (s1.heap.objs.size + 1) s1.heap.objs.size, ⟨⟨.none, he⟩, ⟨_, hit, rfl, rfl⟩, Nat.succ_ne_self _⟩, fp2, q⟩
def pairsD : Nat → List D → List D
  | _, [] => []
  | i, d :: ds => .tup [.int (i : Nat), d] :: pairsD (i + 1) ds
theorem pairsD_len : ∀ (i : Nat) (ds : List D), (pairsD i ds).length = ds.length
  | _, [] => rfl
  | i, d :: ds => by rw [pairsD, List.length_cons, List.length_cons, pairsD_len (i + 1) ds]
theorem pairsD_get : ∀ (k : Nat) (ds : List D) (i : Nat) (x : D), (pairsD k ds)[i]? = some x → ∃ d, ds[i]? = some d ∧ x = .tup [.int ((k + i : Nat) : Int), d]
  | _, [], i, x, h => by simp [pairsD] at h
  | k, d :: ds, 0, x, h => by
    simp [pairsD] at h
    exact ⟨d, rfl, h.symm⟩
  | k, d :: ds, i + 1, x, h => by
    rw [pairsD, List.getElem?_cons_succ] at h
    obtain ⟨e, h1, h2⟩ := pairsD_get (k + 1) ds i x h
    exact ⟨e, by rw [List.getElem?_cons_succ]; exact h1, by rw [h2]; congr 4; omega⟩
theorem walk_et {K : PySem.W.Frag} {F : Hp} {a : Addr} {xs : List V} {ds : List D} (hq : SqT K F a xs) (hd : DnL K F xs ds) : WalkD K F (Iet K a) (pairsD 0 ds) where
  go := fun i H e hi => ⟨xs, xs[i]'(by rw [hd.length, ← pairsD_len 0]; exact hi), ex_t e hq, List.getElem?_eq_getElem _⟩
  stop := fun i H e hi => ⟨xs, ex_t e hq, by rw [hd.length, ← pairsD_len 0]; exact hi⟩
  yld := fun i H x H' d μ F1 g e r y hi => by
    obtain ⟨T, v, rfl, hT, rfl, y⟩ := y
    obtain ⟨d', h1, rfl⟩ := pairsD_get 0 ds i d hi
    obtain ⟨v', h2, h3⟩ := hd.get h1
    have h4 := y xs (ex_t (ex_trans e r.ex) hq)
    rw [h2] at h4; cases h4
    refine ⟨_, Ext.new (r.fresh hT), r.new hT, ?_⟩
    have ee : Ex F1 (upd F1 T (.tup [.int (i : Nat), v])) := (Ext.new (μ := μ) (r.fresh hT)).f
    rw [Nat.zero_add]
    exact .tup (SqT.of upd_same) (.cons (.int _) (.cons ((h3.mono e).mono ee) .nil))
theorem walk_el {K : PySem.W.Frag} {F : Hp} {a : Addr} {xs : List V} {ds : List D} (hq : SqL K F a xs) (hd : DnL K F xs ds) : WalkD K F (Ite K a) (pairsD 0 ds) where
  go := fun i H e hi => ⟨xs, xs[i]'(by rw [hd.length, ← pairsD_len 0]; exact hi), ex_l e hq, List.getElem?_eq_getElem _⟩
  stop := fun i H e hi => ⟨xs, ex_l e hq, by rw [hd.length, ← pairsD_len 0]; exact Nat.le_of_eq hi⟩
  yld := fun i H x H' d μ F1 g e r y hi => by
    obtain ⟨T, v, rfl, hT, rfl, y⟩ := y
    obtain ⟨d', h1, rfl⟩ := pairsD_get 0 ds i d hi
    obtain ⟨v', h2, h3⟩ := hd.get h1
    have h4 := y xs (ex_l (ex_trans e r.ex) hq)
    rw [h2] at h4; cases h4
    refine ⟨_, Ext.new (r.fresh hT), r.new hT, ?_⟩
    have ee : Ex F1 (upd F1 T (.tup [.int (i : Nat), v])) := (Ext.new (μ := μ) (r.fresh hT)).f
    rw [Nat.zero_add]
    exact .tup (SqT.of upd_same) (.cons (.int _) (.cons ((h3.mono e).mono ee) .nil))
def enumI (fl : DE (List S)) : DE (List D) := fun ρ g => (fl ρ g).bind fun xs g1 => match xs with
  | [.d x] => match itemsD x with
    | some ds => .ok (pairsD 0 ds) g1
    | none => .bad
  | _ => .bad
theorem id_enum {X : Cx} {W : WX} {a : Expr} {fl : DE (List S)} {p pos tpos : Pos} {elts : List Expr} {kk : Nat} (hg : Gl X "enumerate") (hm : X.mg "enumerate" = none) (ha : LD X W [a] fl) (hs : starEach [a] X.env = [(false, eval a X.env)] := by rfl) :
    ID X W (.Tuple elts kk tpos) (.Call (.Name "enumerate" p) [a] [] pos) (enumI fl) := pi_weak (pi_enumX hg hm ha hs) fun σ H R ⟨μ, F, g, ρ, r, re, q⟩ => by
  refine ⟨μ, F, g, ρ, r, re, (Post.step (rel := relL X.K) q).imp fun vs H1 ⟨μ1, F1, ss, g1, x1, r1, sv, p1⟩ => ?_⟩
  split at p1
  · rename_i x
    cases sv with
    | cons s1 t =>
    cases t
    cases s1 with
    | d s1 =>
    cases s1 with
    | tup hq hd => exact ⟨_, _, rfl, .inr ⟨ex_t r1.ex hq, p1 μ1 F1 H1 _ (.refl _ _) r1 (walk_et hq hd)⟩⟩
    | lst hq hd => exact ⟨_, _, rfl, .inl ⟨SqL.of (r1.ex _ _ hq), p1 μ1 F1 H1 _ (.refl _ _) r1 (walk_el (SqL.of hq) hd)⟩⟩
    | scr hq => exact ⟨_, _, rfl, .inl ⟨ex_l r1.ex hq, p1 μ1 F1 H1 _ (.refl _ _) r1 (walk_el hq (DnL.ints _))⟩⟩
    | _ => exact p1.elim
  · exact p1.elim
end DL
/-! DLS: sets of nested keys (whole numbers, None, tuples of such), and sorted(set(xs)). -/
namespace DLS
open PySem PySem.Spec PyProof.Rows L2
abbrev NK := NestedKey
mutual
/-- hashed by value: no text in it -/
def plainK : NK → Bool
  | .none => true
  | .num _ => true
  | .text _ => false
  | .tup ks => plainKs ks
def plainKs : List NK → Bool
  | [] => true
  | k :: ks => plainK k && plainKs ks
end
section
variable {P : Program} {w : World}
/-- a question that changes nothing and is answered b -/
def Says (P : Program) (w : World) (q : Sem Bool) (b : Bool) (s : Shared) : Prop := ∀ (A : Around) (E : Value → Shared → Prop) (Q : Bool → Shared → Prop), Q b s → wpAny (model P w) A q Q E s
theorem Says.pure {b : Bool} {s : Shared} : Says P w (pure b) b s := fun A E Q h => wpAny_pure h
/-- is it of a class statement: asked of a tuple, its items being of none -/
theorem cls_tup {n : Nat} {s : Shared} {a : Addr} {o : Obj} {vs : Array Value} {m : Nat} (ho : s.heap.get? a = some o) (hc : o.cls = .type "tuple") (hd : o.data = .seq vs m) (items : ∀ v ∈ vs.toList, Says P w (ofAClassStatement n v) false s) :
    Says P w (ofAClassStatement (n + 1) (.ref a)) false s := fun A E Q goal => by
  have ty : s.TypeIs (.ref a) "tuple" := ⟨o, ho, hc⟩
  unfold ofAClassStatement
  refine wpAny_bind (wpAny_typeOf ty ?_)
  dsimp only
  have yes : (("tuple" : String) == "tuple") = true := by decide
  simp only [yes, if_true, Bool.not_true, Bool.false_eq_true, if_false]
  try refine wpAny_bind (wpAny_pure ?_)
  try simp only [Bool.not_true, Bool.false_eq_true, if_false]
  refine wpAny_bind (wpAny_seqItems ho hd ?_)
  dsimp only
  refine wpAny_bind ?_
  rw [← Array.forIn_toList]
  refine wpAny_forIn_list _ (fun l r s1 => s1 = s ∧ r.1 = none ∧ ∀ v ∈ l, Says P w (ofAClassStatement n v) false s) _ (fun v l r s1 inv => ?_) (fun r s1 inv => ?_) _ _ ⟨rfl, rfl, items⟩
  · obtain ⟨rfl, hr, hl⟩ := inv
    refine wpAny_bind (hl v List.mem_cons_self _ _ _ ?_)
    simp only [Bool.false_eq_true, if_false]
    exact wpAny_pure ⟨rfl, rfl, fun u hu => hl u (List.mem_cons_of_mem _ hu)⟩
  · obtain ⟨rfl, hr, _⟩ := inv
    obtain ⟨r1, r2⟩ := r
    dsimp only at hr
    subst hr
    exact wpAny_pure goal
/-- is it hashed by value: a tuple whose items are -/
theorem val_tup {n : Nat} {s : Shared} {a : Addr} {o : Obj} {vs : Array Value} {m : Nat} (ho : s.heap.get? a = some o) (hc : o.cls = .type "tuple") (hd : o.data = .seq vs m) (items : ∀ v ∈ vs.toList, Says P w (hashByValue n v) true s) :
    Says P w (hashByValue (n + 1) (.ref a)) true s := fun A E Q goal => by
  have ty : s.TypeIs (.ref a) "tuple" := ⟨o, ho, hc⟩
  unfold hashByValue
  refine wpAny_bind (wpAny_specialOf ty F.slot_tuple_hash.lookup ?_)
  dsimp only
  refine wpAny_bind (wpAny_seqItems ho hd ?_)
  refine wpAny_bind ?_
  show wpAny _ _ (forIn vs _ _) _ _ s
  rw [← Array.forIn_toList]
  refine wpAny_forIn_list _ (fun l r s1 => s1 = s ∧ r.1 = none ∧ ∀ v ∈ l, Says P w (hashByValue n v) true s) _ (fun v l r s1 inv => ?_) (fun r s1 inv => ?_) _ _ ⟨rfl, rfl, items⟩
  · obtain ⟨rfl, hr, hl⟩ := inv
    refine wpAny_bind (hl v List.mem_cons_self _ _ _ ?_)
    simp only [Bool.not_true, Bool.false_eq_true, if_false]
    exact wpAny_pure ⟨rfl, rfl, fun u hu => hl u (List.mem_cons_of_mem _ hu)⟩
  · obtain ⟨rfl, hr, _⟩ := inv
    obtain ⟨r1, r2⟩ := r
    dsimp only at hr
    subst hr
    exact wpAny_pure goal
mutual
theorem cls_key : ∀ (k : NK) (v : Value) (n : Nat) (s : Shared), NestedIs s.heap k v → k.depth ≤ n → Says P w (ofAClassStatement n v) false s
  | .none, _, n, s, x, _ => by cases x; cases n <;> exact Says.pure
  | .num i, _, n, s, x, _ => by cases x <;> (cases n <;> exact Says.pure)
  | .text y, _, n, s, x, _ => by cases x; cases n <;> exact Says.pure
  | .tup ks, _, n, s, x, hn => by
    cases x with
    | tup h1 h2 h3 h4 =>
      simp only [NestedKey.depth] at hn
      cases n with
      | zero => exact absurd hn (by omega)
      | succ n => exact cls_tup h1 h2 h3 (cls_keys ks _ n s h4 (by omega))
theorem cls_keys : ∀ (ks : List NK) (vs : List Value) (n : Nat) (s : Shared), NestedAll s.heap ks vs → NestedKey.depthAll ks ≤ n → ∀ v ∈ vs, Says P w (ofAClassStatement n v) false s
  | [], _, n, s, x, _, v, hv => by cases x; cases hv
  | k :: ks, _, n, s, x, hn, v, hv => by
    cases x with
    | cons x1 x2 =>
      simp only [NestedKey.depthAll] at hn
      rcases List.mem_cons.mp hv with z | z
      · subst z; exact cls_key k _ n s x1 (by omega)
      · exact cls_keys ks _ n s x2 (by omega) v z
end
mutual
theorem val_key : ∀ (k : NK) (v : Value) (n : Nat) (s : Shared), NestedIs s.heap k v → k.depth ≤ n → plainK k = true → Says P w (hashByValue n v) true s
  | .none, _, n, s, x, _, _ => by cases x; cases n <;> exact Says.pure
  | .num i, _, n, s, x, _, _ => by cases x <;> (cases n <;> exact Says.pure)
  | .text y, _, n, s, x, _, hp => by cases hp
  | .tup ks, _, n, s, x, hn, hp => by
    cases x with
    | tup h1 h2 h3 h4 =>
      simp only [NestedKey.depth] at hn
      cases n with
      | zero => exact absurd hn (by omega)
      | succ n => exact val_tup h1 h2 h3 (val_keys ks _ n s h4 (by omega) hp)
theorem val_keys : ∀ (ks : List NK) (vs : List Value) (n : Nat) (s : Shared), NestedAll s.heap ks vs → NestedKey.depthAll ks ≤ n → plainKs ks = true → ∀ v ∈ vs, Says P w (hashByValue n v) true s
  | [], _, n, s, x, _, _, v, hv => by cases x; cases hv
  | k :: ks, _, n, s, x, hn, hp, v, hv => by
    cases x with
    | cons x1 x2 =>
      simp only [NestedKey.depthAll] at hn
      obtain ⟨hp1, hp2⟩ := Bool.and_eq_true_iff.mp hp
      rcases List.mem_cons.mp hv with z | z
      · subst z; exact val_key k _ n s x1 (by omega) hp1
      · exact val_keys ks _ n s x2 (by omega) hp2 v z
end
/-- the tuple at a is the key k, hashed by value, no deeper than 8 -/
structure Key (h : Heap) (k : NK) (a : Addr) : Prop where
  it : NestedIs h k (.ref a)
  dp : k.depth ≤ 8
  pl : plainK k = true
theorem Key.kind {h : Heap} {k : NK} {a : Addr} (x : Key h k a) : (nestedKind P w).is h k a := ⟨x.it, x.dp⟩
theorem Key.inj {h : Heap} {k k' : NK} {a : Addr} (x : Key h k a) (y : Key h k' a) : k = k' := NestedIs.inj _ _ _ x.it y.it
theorem Key.there {h : Heap} {k : NK} {a : Addr} (x : Key h k a) : ∃ o vs n, h.get? a = some o ∧ o.cls = .type "tuple" ∧ o.data = .seq vs n := by
  obtain ⟨it, _, _⟩ := x
  cases it with
  | tup h1 h2 h3 _ => exact ⟨_, _, _, h1, h2, h3⟩
theorem Key.keep {h h' : Heap} {k : NK} {a : Addr} (x : Key h k a) (hk : ∀ b o vs n, h.get? b = some o → o.data = .seq vs n → h'.get? b = some o) : Key h' k a := ⟨NestedIs.at hk _ _ x.it, x.dp, x.pl⟩
theorem Key.but {h h' : Heap} {k : NK} {a d : Addr} {o : Obj} {es : Array (Int × Value)} {ep : Nat} {t : SetTable} (x : Key h k a) (ho : h.get? d = some o) (hd : o.data = .set es ep t) (hs : Heap.SameBut d h h') : Key h' k a :=
  x.keep fun b ob vs n h1 h2 => (hs.2 b fun z => by
    rw [z, ho] at h1
    cases h1
    rw [hd] at h2
    cases h2).trans h1
/-- a search among such keys shows nothing -/
theorem seen_no {s : Shared} {k : NK} {a : Addr} (x : Key s.heap k a) {ys : List Value} (hy : ∀ y ∈ ys, ∃ k' c, y = Value.ref c ∧ Key s.heap k' c) : Says P w (searchCouldBeSeen (.ref a) ys) false s := fun A E Q goal => by
  unfold searchCouldBeSeen
  refine wpAny_bind ?_
  refine wpAny_forIn_list _ (fun l r s1 => s1 = s ∧ r.1 = none ∧ ∀ y ∈ l, ∃ k' c, y = Value.ref c ∧ Key s.heap k' c) _ (fun v l r s1 inv => ?_) (fun r s1 inv => ?_) _ _ ⟨rfl, rfl, hy⟩
  · obtain ⟨rfl, hr, hl⟩ := inv
    obtain ⟨k', c, rfl, y⟩ := hl v List.mem_cons_self
    have go : ∀ u ∈ l, ∃ k' c, u = Value.ref c ∧ Key s1.heap k' c := fun u hu => hl u (List.mem_cons_of_mem _ hu)
    dsimp only
    by_cases same : (a == c || (carriedByValue (.ref a) && carriedByValue (.ref c))) = true
    · exact wp_if_pos same (wpAny_pure ⟨rfl, rfl, go⟩)
    · refine wp_if_neg same ?_
      refine wpAny_bind (quiet_key k _ 8 s1 x.it x.dp _ _ _ ?_)
      simp only [Bool.not_true, Bool.false_eq_true, if_false]
      refine wpAny_bind (quiet_key k' _ 8 s1 y.it y.dp _ _ _ ?_)
      simp only [Bool.not_true, Bool.false_eq_true, if_false]
      refine wpAny_bind (cls_key k _ 8 s1 x.it x.dp _ _ _ ?_)
      simp only [Bool.false_eq_true, if_false]
      refine wpAny_bind (cls_key k' _ 8 s1 y.it y.dp _ _ _ ?_)
      simp only [Bool.false_eq_true, if_false]
      exact wpAny_pure ⟨rfl, rfl, go⟩
  · obtain ⟨rfl, hr, _⟩ := inv
    obtain ⟨r1, r2⟩ := r
    dsimp only at hr
    subst hr
    exact wpAny_pure goal
end

/-! ### the table -/
abbrev Row := Addr × NK
def rowsK (w : World) (L : List Row) : List (Int × Value) := L.map fun p => (p.2.hash w, Value.ref p.1)
def hashL (w : World) (L : List Row) : List Int := L.map fun p => p.2.hash w
theorem rowsK_len (w : World) (L : List Row) : (rowsK w L).length = L.length := List.length_map ..
/-- a set of such keys at a; L: its rows as they stand in the table -/
structure Tab (P : Program) (w : World) (h : Heap) (a : Addr) (L : List Row) (es : Array (Int × Value)) (ep : Nat) (t : SetTable) : Prop where
  obj : ∃ o, h.get? a = some o ∧ o.ExactSet ∧ o.data = .set es ep t
  row : es.toList = rowsK w L
  tbl : TabOk t (hashL w L)
  once : (L.map (·.2)).Nodup
  keys : ∀ p ∈ L, Key h p.2 p.1
  plain : t.plain = true
  led : w.params.followText "set-order" = true ∨ t.led = true
  free : L.length * 5 < t.mask * 3
  few : L.length < 64
/-- the hash of the i-th entry -/
abbrev hAt (es : Array (Int × Value)) (i : Nat) : Int := (es[i]?.map (·.1)).getD 0
/-- the n-th step of the way of the hash h -/
abbrev stepN (t : SetTable) (h : Int) (n : Nat) : SetTable.Probe := nth t.mask (runAt t.mask (SetTable.bits h % (t.mask + 1)) (SetTable.bits h)) n
theorem step_more (t : SetTable) (h : Int) (c q : Nat) : nth t.mask (stepN t h c) q = stepN t h (c + q) := (nth_add t.mask c _ q).symm
theorem step_dummy (t : SetTable) (h : Int) (c : Nat) : (stepN t h c).dummy = none := by
  have gen : ∀ (n : Nat) (p : SetTable.Probe), p.dummy = none → (nth t.mask p n).dummy = none := fun n => by
    induction n with
    | zero => exact fun p z => z
    | succ n ih => exact fun p z => ih (adv t.mask p) (by unfold adv; split <;> exact z)
  exact gen c _ rfl
section
variable {P : Program} {w : World} {s : Shared} {a : Addr} {L : List Row} {es : Array (Int × Value)} {ep : Nat} {t : SetTable}
theorem Tab.size (T : Tab P w s.heap a L es ep t) : es.size = L.length := by
  rw [← Array.length_toList, T.row, rowsK_len]
theorem Tab.place (T : Tab P w s.heap a L es ep t) : t.place.size = L.length := by
  rw [T.tbl.sz]
  exact List.length_map ..
theorem Tab.fits (T : Tab P w s.heap a L es ep t) : t.fits es.size = true := by
  have h1 := T.place
  have h2 := T.size
  have h3 := T.free
  unfold SetTable.fits SetTable.fill
  rw [T.tbl.dm, Bool.and_eq_true, beq_iff_eq, decide_eq_true_eq, h1, h2]
  exact ⟨rfl, by show L.length + 0 ≤ t.mask; omega⟩
theorem Tab.at (T : Tab P w s.heap a L es ep t) {i : Nat} {p : Row} (h : L[i]? = some p) : es[i]? = some (p.2.hash w, Value.ref p.1) := by
  rw [← Array.getElem?_toList, T.row]
  show (L.map _)[i]? = _
  rw [List.getElem?_map, h]
  rfl
theorem Tab.hashAt (T : Tab P w s.heap a L es ep t) {i : Nat} {p : Row} (h : L[i]? = some p) : (es[i]?.map (·.1)).getD 0 = p.2.hash w := by
  rw [T.at h]
  rfl
theorem Tab.good (T : Tab P w s.heap a L es ep t) : ¬ t.gaveWay = true := by
  unfold SetTable.gaveWay
  rw [mask_odd T.tbl.mok]
  decide
/-- the row of a place that is taken -/
theorem Tab.rowAt (T : Tab P w s.heap a L es ep t) {i j : Nat} (h : t.place.toList[i]? = some j) : ∃ p, L[i]? = some p := by
  have h1 := (List.getElem?_eq_some_iff.mp h).1
  rw [Array.length_toList, T.place] at h1
  exact ⟨L[i], List.getElem?_eq_getElem h1⟩
/-- what one probe from the c-th step meets, K being the first free step -/
theorem Tab.probe (T : Tab P w s.heap a L es ep t) (h : Int) {K c : Nat} (hK : K < 10 * SetTable.turns t.mask) (free : way t.mask h K ∉ t.place.toList) (taken : ∀ n, n < K → way t.mask h n ∈ t.place.toList) (hc : c ≤ K) :
    (∃ q i : Nat, c + q < K ∧ t.place.toList[i]? = some (way t.mask h (c + q)) ∧ hAt es i = h ∧ (∀ (n i' : Nat), c ≤ n → n < c + q → t.place.toList[i']? = some (way t.mask h n) → hAt es i' ≠ h) ∧
      t.probe (fun i => hAt es i) h (stepN t h c) = some (.candidate (way t.mask h (c + q)) i (stepN t h (c + (q + 1))))) ∨
    ((∀ (n i' : Nat), c ≤ n → n < K → t.place.toList[i']? = some (way t.mask h n) → hAt es i' ≠ h) ∧ t.probe (fun i => hAt es i) h (stepN t h c) = some (.empty (way t.mask h K) none)) := by
  have jj : ∀ q, (nth t.mask (stepN t h c) q).j = way t.mask h (c + q) := fun q => congrArg SetTable.Probe.j (step_more t h c q)
  have back : ∀ (r : Nat), (∀ (n i' : Nat), n < r → t.place.toList[i']? = some (nth t.mask (stepN t h c) n).j → hAt es i' ≠ h) → ∀ (n i' : Nat), c ≤ n → n < c + r → t.place.toList[i']? = some (way t.mask h n) → hAt es i' ≠ h := fun r z n i' n1 n2 e =>
    z (n - c) i' (by omega) (by rw [jj, show c + (n - c) = n by omega]; exact e)
  rcases go_spec t T.tbl.ris T.tbl.dm (fun i => hAt es i) h (10 * SetTable.turns t.mask) (K - c) (stepN t h c) (step_dummy t h c) (by omega) (fun q hq => by rw [jj]; exact taken _ (by omega)) (by rw [jj, show c + (K - c) = K by omega]; exact free) with ⟨q, i, a1, a2, a3, a4, a5⟩ | ⟨a1, a2⟩
  · refine .inl ⟨q, i, by omega, by rw [← jj]; exact a2, a3, back q a4, ?_⟩
    rw [← jj, ← step_more]
    exact a5
  · refine .inr ⟨fun n i' n1 n2 => back (K - c) a1 n i' n1 (by omega), ?_⟩
    have e : way t.mask h K = (nth t.mask (stepN t h c) (K - c)).j := by rw [jj, show c + (K - c) = K by omega]
    rw [e]
    exact a2
end
section
variable {P : Program} {w : World} {A : Around} {E : Value → Shared → Prop} {s : Shared} {a : Addr} {L : List Row} {es : Array (Int × Value)} {ep : Nat} {t : SetTable}
/-- behind a candidate whose row is p -/
theorem Tab.candidate (T : Tab P w s.heap a L es ep t) {x : Addr} {k : NK} (hx : Key s.heap k x) (room : A.units + 8 < cLine) {f i j : Nat} {nxt : SetTable.Probe} {p : Row} (hp : L[i]? = some p) (hj : t.place.toList[i]? = some j) {Q : SetFound → Shared → Prop}
    (same : p.2 = k → Q (.there none) s) (other : p.2 ≠ k → wpAny (model P w) A (setSearchFrom a (.ref x) (k.hash w) true f (some nxt)) Q E s) : wpAny (model P w) A (searchRest a (.ref x) (k.hash w) true f es t j i nxt) Q E s := by
  obtain ⟨o, ho, _, hd⟩ := T.obj
  unfold searchRest
  rw [T.at hp]
  dsimp only
  refine wpAny_bind (wpAny_holding ((nestedKind P w).eqBool room (T.keys p (List.mem_of_getElem? hp)).kind hx.kind ?_))
  refine wpAny_bind (wpAny_setState_of ho hd T.fits ?_)
  dsimp only
  by_cases e : p.2 = k
  · exact wp_if_pos (by simp [e]) (wpAny_pure (same e))
  · refine wp_if_neg (by simp [e]) ?_
    try refine wpAny_bind (wpAny_pure ?_)
    rw [sameMem]
    dsimp only
    simp only [if_true, slot_live T.tbl.ris hj, T.at hp]
    refine wpAny_bind (wpAny_isSame_ref_self (wpAny_bind (wpAny_pure ?_)))
    simp only [if_true]
    exact wp_if_neg (by simp [e]) (other e)
theorem Tab.searchFrom (T : Tab P w s.heap a L es ep t) {x : Addr} {k : NK} (hx : Key s.heap k x) (room : A.units + 8 < cLine) {K : Nat} (hK : K < 10 * SetTable.turns t.mask) (free : way t.mask (k.hash w) K ∉ t.place.toList) (taken : ∀ n, n < K → way t.mask (k.hash w) n ∈ t.place.toList)
    {Q : SetFound → Shared → Prop} (found : k ∈ L.map (·.2) → Q (.there none) s) (new : k ∉ L.map (·.2) → Q (.free (way t.mask (k.hash w) K) false) s) :
    ∀ (f c : Nat) (stand : Option SetTable.Probe), stand.getD (t.probeStart (k.hash w)) = stepN t (k.hash w) c → c ≤ K → K < f + c → (∀ (i : Nat) (p : Row), L[i]? = some p → p.2 = k → ∃ n, c ≤ n ∧ n < K ∧ t.place.toList[i]? = some (way t.mask (k.hash w) n)) →
      wpAny (model P w) A (setSearchFrom a (.ref x) (k.hash w) true f stand) Q E s := by
  intro f
  induction f with
  | zero => exact fun c _ _ h1 h2 _ => absurd h2 (by omega)
  | succ f ih =>
    intro c stand hst hc hf ahead
    obtain ⟨o, ho, _, hd⟩ := T.obj
    rw [setSearchFrom_succ]
    refine wpAny_bind (wpAny_setState_of ho hd T.fits ?_)
    dsimp only
    refine wp_if_neg T.good ?_
    try refine wpAny_bind (wpAny_pure ?_)
    rw [hst]
    rcases T.probe (k.hash w) hK free taken hc with ⟨q, i, hq, hi, hh, none, met⟩ | ⟨none, met⟩
    · rw [met]
      dsimp only
      obtain ⟨p, hp⟩ := T.rowAt hi
      have cand : wpAny (model P w) A (searchRest a (.ref x) (k.hash w) true f es t (way t.mask (k.hash w) (c + q)) i (stepN t (k.hash w) (c + (q + 1)))) Q E s := by
        refine T.candidate hx room hp hi (fun e => found (List.mem_map.mpr ⟨p, List.mem_of_getElem? hp, e⟩)) fun e => ?_
        refine ih (c + (q + 1)) _ rfl (by omega) (by omega) fun i2 p2 h2 e2 => ?_
        obtain ⟨n, n1, n2, n3⟩ := ahead i2 p2 h2 e2
        have same : hAt es i2 = k.hash w := (T.hashAt h2).trans (by rw [e2])
        refine ⟨n, ?_, n2, n3⟩
        rcases Nat.lt_trichotomy n (c + q) with z | z | z
        · exact absurd same (none n i2 n1 z n3)
        · rw [z] at n3
          have l1 := slot_live T.tbl.ris n3
          rw [slot_live T.tbl.ris hi] at l1
          injection l1 with l1
          rw [← l1, hp] at h2
          rw [← Option.some.inj h2] at e2
          exact absurd e2 e
        · omega
      by_cases led : t.led = true
      · refine wp_if_neg (by simp [led]) ?_
        try refine wpAny_bind (wpAny_pure ?_)
        exact cand
      · refine wp_if_pos (by simp [led]) (wpAny_bind (seen_no hx (fun y hy => ?_) _ _ _ ?_))
        · obtain ⟨r, hr, er⟩ := List.mem_map.mp hy
          have hr1 : r ∈ es.toList := by
            have z : r ∈ es ∧ r.1 = k.hash w := by simpa using hr
            simpa using z.1
          rw [T.row] at hr1
          obtain ⟨p2, m2, e2⟩ := List.mem_map.mp hr1
          exact ⟨p2.2, p2.1, by rw [← er, ← e2], T.keys p2 m2⟩
        · refine wp_if_neg (by decide) ?_
          try refine wpAny_bind (wpAny_pure ?_)
          exact cand
    · rw [met]
      dsimp only
      refine wpAny_pure (new fun hm => ?_)
      obtain ⟨p, m, e⟩ := List.mem_map.mp hm
      obtain ⟨i, hi⟩ := List.getElem?_of_mem m
      obtain ⟨n, n1, n2, n3⟩ := ahead i p hi e
      exact none n i n1 n2 n3 ((T.hashAt hi).trans (by rw [e]))
theorem turns_le {m : Nat} (h : MaskOk m) : 10 * SetTable.turns m < 100000 := by
  unfold SetTable.turns
  rcases h with e | e | e <;> omega
theorem Tab.search (T : Tab P w s.heap a L es ep t) {x : Addr} {k : NK} (hx : Key s.heap k x) (room : A.units + 8 < cLine) {Q : SetFound → Shared → Prop} (found : k ∈ L.map (·.2) → Q (.there none) s)
    (new : ∀ K, k ∉ L.map (·.2) → way t.mask (k.hash w) K ∉ t.place.toList → (∀ n, n < K → way t.mask (k.hash w) n ∈ t.place.toList) → Q (.free (way t.mask (k.hash w) K) false) s) :
    wpAny (model P w) A (setSearch a (.ref x) (k.hash w) true) Q E s := by
  have hlen : (hashL w L).length = L.length := List.length_map ..
  obtain ⟨K, hK, free, taken⟩ := T.tbl.first (by have := T.free; rw [hlen]; omega) (k.hash w)
  have small := turns_le T.tbl.mok
  unfold setSearch
  refine T.searchFrom hx room hK free taken found (fun z => new K z free taken) 100000 0 none rfl (Nat.zero_le _) (by omega) fun i p hp e => ?_
  have hi : (hashL w L)[i]? = some (k.hash w) := by
    show (L.map _)[i]? = _
    rw [List.getElem?_map, hp, ← e]
    rfl
  have hil : i < t.place.toList.length := by
    rw [Array.length_toList, T.place]
    exact (List.getElem?_eq_some_iff.mp hp).1
  obtain ⟨n, n1, n2⟩ := T.tbl.before free hi (List.getElem?_eq_getElem hil)
  exact ⟨n, Nat.zero_le _, n1, by rw [n2]; exact List.getElem?_eq_getElem hil⟩
end

/-! ### the table laid anew -/
abbrev row0 : Row := (0, .none)
theorem range_rows (L : List Row) : (List.range L.length).map (fun i => L.getD i row0) = L := by
  apply List.ext_getElem
  · simp
  · intro i h1 h2
    simp [List.getElem_map, List.getElem_range, h2]
theorem laid_rows (w : World) (L : List Row) (es : Array (Int × Value)) (order : Array Nat) (hr : es.toList = rowsK w L) (hp : order.toList.Perm (List.range L.length)) :
    ∃ L2, (order.filterMap (es[·]?)).toList = rowsK w L2 ∧ L2.Perm L ∧ hashL w L2 = order.toList.map fun i => (es.map (·.1)).getD i 0 := by
  have small : ∀ i ∈ order.toList, i < L.length := fun i hi => List.mem_range.mp (hp.mem_iff.mp hi)
  have ent : ∀ i ∈ order.toList, es[i]? = some ((L.getD i row0).2.hash w, Value.ref (L.getD i row0).1) := fun i hi => by
    rw [← Array.getElem?_toList, hr]
    show (L.map _)[i]? = _
    rw [List.getElem?_map, List.getElem?_eq_getElem (small i hi)]
    simp [small i hi]
  refine ⟨order.toList.map fun i => L.getD i row0, ?_, ?_, ?_⟩
  · rw [Array.toList_filterMap]
    show _ = (List.map _ order.toList).map _
    rw [List.map_map]
    have gen : ∀ l : List Nat, (∀ i ∈ l, es[i]? = some ((L.getD i row0).2.hash w, Value.ref (L.getD i row0).1)) → l.filterMap (es[·]?) = l.map ((fun p : Row => (p.2.hash w, Value.ref p.1)) ∘ fun i => L.getD i row0) := fun l => by
      induction l with
      | nil => exact fun _ => rfl
      | cons i l ih =>
        intro z
        rw [List.filterMap_cons_some (z i List.mem_cons_self), ih fun j hj => z j (List.mem_cons_of_mem _ hj)]
        rfl
    exact gen _ ent
  · have z := hp.map fun i => L.getD i row0
    rw [range_rows] at z
    exact z
  · show (List.map _ order.toList).map _ = _
    rw [List.map_map]
    refine List.map_congr_left fun i hi => ?_
    have z : (es.map (·.1))[i]? = some ((L.getD i row0).2.hash w) := by
      rw [Array.getElem?_map, ent i hi]
      rfl
    rw [Array.getD_eq_getD_getElem?, z]
    rfl
/-- a table that holds L, but for its room -/
structure Pre (P : Program) (w : World) (h : Heap) (a : Addr) (L : List Row) (es : Array (Int × Value)) (ep : Nat) (t : SetTable) : Prop where
  obj : ∃ o, h.get? a = some o ∧ o.ExactSet ∧ o.data = .set es ep t
  row : es.toList = rowsK w L
  place : t.place.size = L.length
  nodum : t.dummies = #[]
  fill : L.length ≤ t.mask
  once : (L.map (·.2)).Nodup
  keys : ∀ p ∈ L, Key h p.2 p.1
  plain : t.plain = true
  led : w.params.followText "set-order" = true ∨ t.led = true
  few : L.length < 64
section
variable {P : Program} {w : World} {A : Around} {E : Value → Shared → Prop} {s : Shared} {a : Addr} {L : List Row} {es : Array (Int × Value)} {ep : Nat} {t : SetTable}
theorem Pre.relay (T : Pre P w s.heap a L es ep t) {wanted M : Nat} (hM : SetTable.sizeAbove wanted = M + 1) (mok : MaskOk M) (hn : L.length * 5 < M * 3) {Q : Unit → Shared → Prop}
    (goal : ∀ h' L' es' ep' t', Heap.SameBut a s.heap h' → Tab P w h' a L' es' ep' t' → L'.Perm L → Q () { s with heap := h' }) : wpAny (model P w) A (setRelay a wanted) Q E s := by
  obtain ⟨o, ho, hex, hd⟩ := T.obj
  have few := T.few
  have len : es.size = L.length := by rw [← Array.length_toList, T.row, rowsK_len]
  have fits : t.fits es.size = true := by
    unfold SetTable.fits SetTable.fill
    rw [T.nodum, Bool.and_eq_true, beq_iff_eq, decide_eq_true_eq, T.place, len]
    exact ⟨rfl, by have := T.fill; show L.length + 0 ≤ t.mask; omega⟩
  have m127 : M ≤ 127 := by rcases mok with e | e | e <;> omega
  obtain ⟨t2, order, e1, pm, tab, mask2, led2, plain2, _⟩ := relaid_ok t (hs := es.map (·.1)) (wanted := wanted) (by rw [hM]; rfl) mok (by rw [Array.size_map, len]; omega)
  rw [Array.size_map, len] at pm
  obtain ⟨L2, r1, r2, r3⟩ := laid_rows w L es order T.row pm
  rw [← r3] at tab
  have len2 : (order.filterMap (es[·]?)).size = es.size := by
    rw [← Array.length_toList, r1, rowsK_len, r2.length_eq, len]
  rw [setRelay_eq]
  refine wpAny_bind (wpAny_setState_of ho hd fits ?_)
  dsimp only
  refine wp_if_neg (by rw [sizeLine_eq, hM]; omega) ?_
  try refine wpAny_bind (wpAny_pure ?_)
  rw [e1]
  dsimp only
  refine wpAny_bind (wp_if_neg (by rw [len2]; simp) ?_)
  try refine wpAny_bind (wpAny_pure ?_)
  refine wpAny_pure ?_
  dsimp only
  refine wpAny_storeSet_of ho hd ?_ (by rw [len2, len, sizeLine_eq]; omega)
  have but : Heap.SameBut a s.heap (s.heap.update a (Obj.putSet (order.filterMap (es[·]?)) t2)) := Heap.SameBut.update ..
  exact goal _ L2 _ (ep + 1) t2 but ⟨⟨_, store_at ho hd, ⟨hex.1, hex.2.1, hex.2.2⟩, rfl⟩, r1, tab, (r2.map (·.2)).nodup_iff.mpr T.once, fun p hp => (T.keys p (r2.mem_iff.mp hp)).but ho hd but, by rw [plain2]; exact T.plain, by rw [led2]; exact T.led,
    by rw [r2.length_eq, mask2]; exact hn, by rw [r2.length_eq]; exact few⟩ r2
end

/-! ### adding -/
section
variable {P : Program} {w : World} {A : Around} {E : Value → Shared → Prop} {s : Shared} {a : Addr} {L : List Row} {es : Array (Int × Value)} {ep : Nat} {t : SetTable}
theorem rowsK_put (w : World) (L : List Row) (n : Nat) (p : Row) : rowsK w (L.take n ++ p :: L.drop n) = (rowsK w L).take n ++ (p.2.hash w, Value.ref p.1) :: (rowsK w L).drop n := by
  simp [rowsK]
theorem hashL_put (w : World) (L : List Row) (n : Nat) (p : Row) : hashL w (L.take n ++ p :: L.drop n) = (hashL w L).take n ++ p.2.hash w :: (hashL w L).drop n := by
  simp [hashL]
/-- behind the store: the table with the new row, laid anew if it is too full -/
theorem Pre.settle (T : Pre P w s.heap a L es ep t) (tab : TabOk t (hashL w L)) (full : t.tooFull = true → (t.mask = 7 ∧ L.length = 5) ∨ (t.mask = 31 ∧ L.length = 19)) (room : ¬ t.tooFull = true → L.length * 5 < t.mask * 3) {Q : Shared → Prop}
    (goal : ∀ h' L' es' ep' t', Heap.SameBut a s.heap h' → Tab P w h' a L' es' ep' t' → L'.Perm L → Q { s with heap := h' }) :
    (t.tooFull = true → wpAny (model P w) A (setRelay a (SetTable.grown L.length)) (fun _ s' => Q s') E s) ∧ (¬ t.tooFull = true → Q s) := by
  refine ⟨fun f => ?_, fun f => ?_⟩
  · rcases full f with ⟨e1, e2⟩ | ⟨e1, e2⟩
    · exact T.relay (M := 31) (by rw [e2, size_20]) (.inr (.inl rfl)) (by omega) fun h' L' es' ep' t' b tb pm => goal h' L' es' ep' t' b tb pm
    · exact T.relay (M := 127) (by rw [e2, size_76]) (.inr (.inr rfl)) (by omega) fun h' L' es' ep' t' b tb pm => goal h' L' es' ep' t' b tb pm
  · exact goal s.heap L es ep t (Heap.SameBut.refl a s.heap) ⟨T.obj, T.row, tab, T.once, T.keys, T.plain, T.led, room f, T.few⟩ (List.Perm.refl _)
theorem Tab.add (T : Tab P w s.heap a L es ep t) {x : Addr} {k : NK} (hx : Key s.heap k x) (room : A.units + 8 < cLine) (few : L.length + 1 < 64) {Q : Bool → Shared → Prop}
    (goal : ∀ b h' L' es' ep' t', Heap.SameBut a s.heap h' → Tab P w h' a L' es' ep' t' → (k ∈ L.map (·.2) → L' = L) → (k ∉ L.map (·.2) → L'.Perm ((x, k) :: L)) → Q b { s with heap := h' }) :
    wpAny (model P w) A (setAddHashed a (.ref x) (k.hash w)) Q E s := by
  obtain ⟨o, ho, hex, hd⟩ := T.obj
  have len := T.size
  unfold setAddHashed
  refine wpAny_holding ?_
  rw [show (100000 : Nat) = 99999 + 1 from rfl, setAddHashedIn_succ]
  refine wpAny_bind (wpAny_setState_of ho hd T.fits ?_)
  dsimp only
  refine wp_if_neg (by simp [byScan, Value.scannable]) ?_
  try refine wpAny_bind (wpAny_pure ?_)
  refine wpAny_bind (T.search hx room (fun old => ?_) fun K new free taken => ?_)
  · dsimp only
    exact wpAny_pure (goal false s.heap L es ep t (Heap.SameBut.refl a s.heap) T (fun _ => rfl) fun z => absurd old z)
  · dsimp only
    refine wpAny_bind (wpAny_setState_of ho hd T.fits ?_)
    dsimp only
    obtain ⟨q1, q2, q3, q4, q5, q6, _, _, q9⟩ := T.tbl.put free taken
    have hlen : (hashL w L).length = L.length := List.length_map ..
    rw [hlen] at q9
    generalize hpt : t.put (way t.mask (k.hash w) K) = pt at q1 q3 q4 q5 q6 q9 ⊢
    obtain ⟨t1, n⟩ := pt
    dsimp only at q1 q3 q4 q5 q6 q9 ⊢
    rw [← q1] at q3
    have pl1 : t1.plain = true := q6.trans T.plain
    first
      | (refine wpAny_bind ?_; refine wp_if_pos pl1 ?_; refine val_key k _ 8 s hx.it hx.dp hx.pl _ _ _ ?_)
      | refine wp_if_pos pl1 (wpAny_bind (val_key k _ 8 s hx.it hx.dp hx.pl _ _ _ ?_))
    simp only [if_true]
    have pm : (L.take n ++ (x, k) :: L.drop n).Perm ((x, k) :: L) := put_perm L n (x, k)
    have row1 : (SetTable.insertAt es n (k.hash w, Value.ref x)).toList = rowsK w (L.take n ++ (x, k) :: L.drop n) := by
      rw [SetTable.toList_insertAt, T.row, rowsK_put]
    rw [← hashL_put w L n (x, k)] at q3
    generalize SetTable.insertAt es n (k.hash w, Value.ref x) = es1 at row1 ⊢
    generalize L.take n ++ (x, k) :: L.drop n = L1 at pm row1 q3
    have len1 : L1.length = L.length + 1 := pm.length_eq
    have esz : es1.size = L.length + 1 := by rw [← Array.length_toList, row1, rowsK_len, len1]
    refine wpAny_bind (wpAny_storeSet_of ho hd ?_ (by rw [esz, sizeLine_eq]; omega))
    have but : Heap.SameBut a s.heap (s.heap.update a (Obj.putSet es1 t1)) := Heap.SameBut.update ..
    have ho1 := store_at (es' := es1) (t' := t1) ho hd
    generalize s.heap.update a (Obj.putSet es1 t1) = h1 at but ho1 ⊢
    have fullness : t1.tooFull = true ↔ (L.length + 1) * 5 ≥ t.mask * 3 := by
      unfold SetTable.tooFull
      rw [decide_eq_true_eq, q9, q4]
    have hfree := T.free
    have place1 : t1.place.size = L1.length := by
      have z := q3.sz
      rw [show (hashL w L1).length = L1.length from List.length_map ..] at z
      exact z
    have pre : Pre P w h1 a L1 es1 (ep + 1) t1 := ⟨⟨_, ho1, ⟨hex.1, hex.2.1, hex.2.2⟩, rfl⟩, row1, place1, q3.dm, by rw [len1, q4]; omega, (pm.map (·.2)).nodup_iff.mpr (by rw [List.map_cons]; exact List.nodup_cons.mpr ⟨new, T.once⟩), fun p hp => by
      rcases List.mem_cons.mp (pm.mem_iff.mp hp) with z | z
      · rw [z]; exact hx.but ho hd but
      · exact (T.keys p z).but ho hd but, pl1, by rw [q5]; exact T.led, by rw [len1]; exact few⟩
    obtain ⟨g1, g2⟩ := Pre.settle (A := A) (E := E) (s := { s with heap := h1 }) (Q := fun s' => wpAny (model P w) A (pure true) Q E s') pre q3 (fun f => by
        have f2 := fullness.mp f
        rw [len1, q4]
        rcases T.tbl.mok with e | e | e
        · exact .inl ⟨e, by rw [e] at f2 hfree; omega⟩
        · exact .inr ⟨e, by rw [e] at f2 hfree; omega⟩
        · exact absurd f2 (by rw [e]; omega)) (fun f => by
        have f2 : ¬ (L.length + 1) * 5 ≥ t.mask * 3 := fun z => f (fullness.mpr z)
        rw [len1, q4]; omega) fun h' L' es' ep' t' b tb pm2 => wpAny_pure (goal true h' L' es' ep' t' (but.trans b) tb (fun z => absurd z new) fun _ => pm2.trans pm)
    rw [len]
    rw [len1] at g1
    by_cases f : t1.tooFull = true
    · first
        | (refine wpAny_bind ?_; refine wp_if_pos (by simp [f]) ?_; exact g1 f)
        | (refine wp_if_pos (by simp [f]) ?_; exact wpAny_bind (g1 f))
    · first
        | (refine wp_if_neg (by simp [f]) ?_; exact g2 f)
        | (refine wpAny_bind ?_; refine wp_if_neg (by simp [f]) ?_; exact wpAny_pure (g2 f))
end

/-! ### set(xs) -/
/-- what a set has of the first i of ks -/
structure Has (ks : List Row) (i : Nat) (L : List Row) : Prop where
  from_ : ∀ p ∈ L, p ∈ ks.take i
  each : ∀ p ∈ ks.take i, p.2 ∈ L.map (·.2)
  size : L.length ≤ i
theorem Has.none (ks : List Row) : Has ks 0 [] where
  from_ := fun _ h => nomatch h
  each := fun p h => by rw [List.take_zero] at h; cases h
  size := Nat.le_refl _
theorem Has.next {ks L L' : List Row} {i : Nat} {p : Row} (h : Has ks i L) (hp : ks[i]? = some p) (old : p.2 ∈ L.map (·.2) → L' = L) (new : p.2 ∉ L.map (·.2) → L'.Perm (p :: L)) : Has ks (i + 1) L' := by
  have tk : ks.take (i + 1) = ks.take i ++ [p] := by rw [List.take_succ, hp]; rfl
  by_cases m : p.2 ∈ L.map (·.2)
  · rw [old m]
    refine ⟨fun q hq => by rw [tk]; exact List.mem_append_left _ (h.from_ q hq), fun q hq => ?_, Nat.le_succ_of_le h.size⟩
    rw [tk] at hq
    rcases List.mem_append.mp hq with z | z
    · exact h.each q z
    · rw [List.mem_singleton.mp z]; exact m
  · have pm := new m
    refine ⟨fun q hq => ?_, fun q hq => ?_, by rw [pm.length_eq]; exact Nat.succ_le_succ h.size⟩
    · rw [tk]
      rcases List.mem_cons.mp (pm.mem_iff.mp hq) with z | z
      · rw [z]; exact List.mem_append_right _ (List.mem_singleton.mpr rfl)
      · exact List.mem_append_left _ (h.from_ q z)
    · rw [(pm.map (·.2)).mem_iff, List.map_cons]
      rw [tk] at hq
      rcases List.mem_append.mp hq with z | z
      · exact List.mem_cons_of_mem _ (h.each q z)
      · rw [List.mem_singleton.mp z]; exact List.mem_cons_self
section
variable {P : Program} {w : World} {A : Around} {E : Value → Shared → Prop} {s : Shared}
theorem Tab.keep {h h' : Heap} {a : Addr} {L : List Row} {es : Array (Int × Value)} {ep : Nat} {t : SetTable} (T : Tab P w h a L es ep t) (ha : ∀ o, h.get? a = some o → h'.get? a = some o) (hk : ∀ p ∈ L, Key h' p.2 p.1) : Tab P w h' a L es ep t := by
  obtain ⟨o, ho, r⟩ := T.obj
  exact ⟨⟨o, ha o ho, r⟩, T.row, T.tbl, T.once, hk, T.plain, T.led, T.free, T.few⟩
abbrev newSet (w : World) : Obj := { cls := .type "set", dict := none, data := .set #[] 0 (.fresh 0 0 (!w.params.followText "set-order")) }
theorem tab_new {h : Heap} {a : Addr} (ho : h.get? a = some (newSet w)) : Tab P w h a [] #[] 0 (.fresh 0 0 (!w.params.followText "set-order")) where
  obj := ⟨_, ho, ⟨rfl, rfl, rfl⟩, rfl⟩
  row := rfl
  tbl := ⟨List.Pairwise.nil, rfl, rfl, .inl rfl, fun _ z => (by cases z), fun i h j z => by simp [hashL] at z⟩
  once := List.nodup_nil
  keys := fun _ z => nomatch z
  plain := rfl
  led := by
    show _ ∨ (!w.params.followText "set-order") = true
    cases w.params.followText "set-order" <;> simp
  free := by show 0 * 5 < 7 * 3; decide
  few := by show 0 < 64; decide
theorem update_loop {I : Addr} {fp wr : List Addr} {G : Array GenState → Array GenState → Prop} {n : Nat} {Pv : Nat → Value → Prop} {St : Nat → Shared → Prop} {R : Result → Shared → Prop} (W : WalksS P w A.in1 I fp wr G n Pv St) (S : Addr) (out : S ∉ fp) (ks : List Row) (len : n = ks.length) (few : ks.length < 64)
    (val : ∀ i v, Pv i v → ∃ p, ks[i]? = some p ∧ v = .ref p.1) (h0 : Heap) (keys : ∀ p ∈ ks, Key h0 p.2 p.1) (hS : h0.get? S = none) (hw : ∀ b ∈ wr, h0.get? b = none) (room : A.in1.units + 8 < cLine) :
    ∀ (m i : Nat) (s : Shared), i + m = n → St i s → (∀ b o, h0.get? b = some o → s.heap.get? b = some o) → (∃ L es ep t, Tab P w s.heap S L es ep t ∧ Has ks i L) →
      (∀ s' L es ep t, Moved (S :: wr) G s s' → Tab P w s'.heap S L es ep t → Has ks n L → (∀ b o, h0.get? b = some o → s'.heap.get? b = some o) → R (.ok (.ret .none)) s') →
      codeAny (model P w) A (.builtin "set.update.loop" ⟨[.ref S, .ref I], []⟩) R s := by
  have outW : S ∉ wr := fun z => out (W.sub _ z)
  have wide : ∀ b ∈ wr, b ∈ S :: wr := fun b hb => List.mem_cons_of_mem _ hb
  have keep : ∀ {s1 s2 : Shared}, Moved wr G s1 s2 → (∀ b o, h0.get? b = some o → s1.heap.get? b = some o) → ∀ b o, h0.get? b = some o → s2.heap.get? b = some o := fun mv k b o e => mv.heap b o (fun z => by rw [hw b z] at e; cases e) (k b o e)
  have keyAt : ∀ {h : Heap} {p : Row}, p ∈ ks → (∀ b o, h0.get? b = some o → h.get? b = some o) → Key h p.2 p.1 := fun hp k => (keys _ hp).keep fun b o _ _ e _ => k b o e
  intro m
  induction m with
  | zero =>
    intro i s him st k ⟨L, es, ep, t, T, has⟩ fin
    obtain rfl : i = n := by omega
    refine codeAny_builtin F.entry_set_update_loop ?_
    rw [Around.under_plainId F.plain_set_update_loop _]
    refine wpAny_bind (W.done s _ _ st fun s2 mv => ?_)
    have k2 := keep mv k
    exact wpAny_pure (fin s2 L es ep t (mv.mono wide) (T.keep (fun o e => mv.heap S o outW e) fun p hp => keyAt (List.mem_of_mem_take (has.from_ p hp)) k2) has k2)
  | succ m ih =>
    intro i s him st k ⟨L, es, ep, t, T, has⟩ fin
    refine codeAny_builtin F.entry_set_update_loop ?_
    rw [Around.under_plainId F.plain_set_update_loop _]
    refine wpAny_bind (W.item i s _ _ (by omega) st fun v s2 pv st2 mv => ?_)
    obtain ⟨p, hp, rfl⟩ := val i v pv
    have k2 := keep mv k
    have T2 := T.keep (h' := s2.heap) (fun o e => mv.heap S o outW e) fun q hq => keyAt (List.mem_of_mem_take (has.from_ q hq)) k2
    have hx := keyAt (List.mem_of_getElem? hp) k2
    show wpAny _ A.in1 (holding [Value.ref p.1] (setAdd S (.ref p.1)) >>= _) _ _ s2
    refine wpAny_bind (wpAny_holding ?_)
    unfold setAdd
    refine wpAny_holding (wpAny_bind ((nestedKind P w).pyHash room hx.kind ?_))
    refine Tab.add (s := { s2 with toks := s2.toks + (nestedKind P w).draws p.2 }) T2 hx room (by have := has.size; omega) fun b h3 L3 es3 ep3 t3 but T3 old new => ?_
    have k3 : ∀ b o, h0.get? b = some o → h3.get? b = some o := fun b o e => (but.2 b fun z => by rw [z, hS] at e; cases e).trans (k2 b o e)
    refine wpAny_pure ⟨plainId_quiet F.plain_set_update_loop _, ih (i + 1) _ (by omega) (W.frame _ s2 _ _ st2 (Nat.le_add_right _ _) fun b hb o e => ?_) k3 ⟨L3, es3, ep3, t3, T3, has.next hp old new⟩ fun s4 L4 es4 ep4 t4 mv4 T4 has4 k4 => ?_⟩
    · rw [but.2 b fun z => out (by rw [← z]; exact hb)]
      exact e
    · refine fin s4 L4 es4 ep4 t4 (Moved.trans W.gtrans ((mv.mono wide).then_heap (Nat.le_add_right _ _) fun b o hb e => ?_) mv4) T4 has4 k4
      rw [but.2 b fun z => hb (by rw [z]; exact List.mem_cons_self)]
      exact e
end
end DLS
/-! DLS2: the call set(xs), and sorted over such a set. -/
namespace DLS
open PySem PySem.Spec PyProof.Rows L2
section
variable {P : Program} {w : World} {A : Around} {E : Value → Shared → Prop} {s : Shared}
theorem ref_at {items : Array Value} {ks : List Row} (it : items.toList = ks.map fun p => Value.ref p.1) (i : Nat) (v : Value) (hv : items[i]? = some v) : ∃ p, ks[i]? = some p ∧ v = .ref p.1 := by
  rw [← Array.getElem?_toList, it, List.getElem?_map] at hv
  cases q : ks[i]? with
  | none => rw [q] at hv; cases hv
  | some p => rw [q] at hv; exact ⟨p, rfl, (Option.some.inj hv).symm⟩
theorem past_end {h : Heap} {b : Addr} (hb : h.objs.size ≤ b) : h.get? b = none := by
  cases q : h.get? b with
  | none => rfl
  | some o => exact absurd (Heap.lt_size q) (Nat.not_lt.mpr hb)
abbrev withSet (w : World) (h : Heap) : Heap := h.push (newSet w)
/-- the set's own filling -/
theorem set_fill {l : Addr} {items : Array Value} (ks : List Row) {Q : PySem.Fin → Shared → Prop} (calm : A.handled = none) (hl : s.heap.IsList l items) (it : items.toList = ks.map fun p => Value.ref p.1)
    (keys : ∀ p ∈ ks, Key s.heap p.2 p.1) (few : ks.length < 64) (room : A.units + 1 + 8 < cLine)
    (goal : ∀ (h' : Heap) (tk : Nat) L es ep t, Tab P w h' s.heap.objs.size L es ep t → Has ks ks.length L → (∀ b o, s.heap.get? b = some o → h'.get? b = some o) → Q (.done (.ret .none)) { s with heap := h', toks := tk }) :
    wpAny (model P w) A (Builtin.«set.__init__» ⟨[.ref s.heap.objs.size, .ref l], []⟩) Q E { s with heap := withSet w s.heap } := by
  have size : items.size = ks.length := by rw [← Array.length_toList, it, List.length_map]
  have hS : (withSet w s.heap).get? s.heap.objs.size = some (newSet w) := Heap.get?_push_size _ rfl
  obtain ⟨o, ho, hc, n, hd⟩ := hl
  obtain ⟨cls, dict, data, slots⟩ := o
  simp only at hc hd
  subst hc; subst hd
  have ho1 : (withSet w s.heap).get? l = some { cls := .type "list", dict := dict, data := .seq items n, slots := slots } := Heap.get?_push_of_some _ ho
  have isl : (withSet w s.heap).IsList l items := ⟨_, ho1, rfl, n, rfl⟩
  have e1 := F.sub_list_set
  have e2 := F.sub_list_frozenset
  have e3 : (Value.type "list" == Value.type "dict") = false := by decide
  unfold Builtin.«set.__init__» noKeywords Builtin.Frozenset.updateFrom
  generalize hold : pyIter = it1
  wp_walk
  subst hold
  refine wpAny_pyIter_list isl (wpAny_bind (wpAny_runValue ?_))
  have lt := Heap.lt_size ho
  have z1 : (withSet w s.heap).objs.size = s.heap.objs.size + 1 := Heap.size_push ..
  refine update_loop ((Walks.list (by simp [calm]) _ l (by rw [z1]; exact Nat.ne_of_lt (Nat.lt_succ_of_lt lt)) items).toS) s.heap.objs.size (by rw [z1]; simp only [List.mem_cons, List.not_mem_nil, or_false, not_or]; exact ⟨Nat.ne_of_lt (Nat.lt_succ_self _), Nat.ne_of_gt lt⟩) ks size few (ref_at it) s.heap keys (past_end (Nat.le_refl _))
    (fun b hb => past_end (by rw [List.mem_singleton.mp hb, z1]; omega)) room items.size 0 _ (Nat.zero_add _) ⟨⟨_, Heap.get?_push_size _ rfl, rfl, rfl⟩, isl.push _⟩ (fun b o e => Heap.get?_push_of_some _ (Heap.get?_push_of_some _ e))
    ⟨[], #[], 0, _, tab_new (Heap.get?_push_of_some _ hS), Has.none ks⟩ fun s2 L es ep t mv T has k => ?_
  obtain ⟨h2, g2, d2, tk2, o2⟩ := s2
  have q1 : g2 = s.gens := mv.gens
  have q2 : d2 = s.drawn := mv.drawn
  have q3 : o2 = s.os := mv.os
  subst q1; subst q2; subst q3
  rw [size] at has
  exact wpAny_pure (wpAny_pure (goal h2 tk2 L es ep t T has k))
theorem call_set {l : Addr} {items : Array Value} (ks : List Row) {Q : Value → Shared → Prop} (calm : A.handled = none) (hl : s.heap.IsList l items) (it : items.toList = ks.map fun p => Value.ref p.1)
    (keys : ∀ p ∈ ks, Key s.heap p.2 p.1) (few : ks.length < 64) (room : A.units + 12 < cLine)
    (goal : ∀ (h' : Heap) (tk : Nat) L es ep t, Tab P w h' s.heap.objs.size L es ep t → Has ks ks.length L → (∀ b o, s.heap.get? b = some o → h'.get? b = some o) → Q (.ref s.heap.objs.size) { s with heap := h', toks := tk }) :
    wpAny (model P w) A (call (.type "set") [.ref l]) Q E s := by
  obtain ⟨c, tl, order⟩ := F.called_set.mro
  have a1 := F.called_set.made
  have a2 := F.called_set.sub
  have a3 := F.called_set.notType
  have a4 := F.called_set.canCreate
  have a5 := F.typeCall_set_1 (.ref l)
  refine wpAny_call (codeAny_of_tree ?_)
  show wpAny _ _ (callAny (.type "set") _) _ _ _
  refine wpAny_pure ⟨Code.quiet_builtin _ (by decide +kernel), codeAny_builtin F.entry_type_call ?_⟩
  rw [Around.under_plain (weight_type_call_type "set" [.ref l] []) rfl]
  repeat (any_goals (first | assumption | wp_step))
  refine codeAny_mono (code_set_led1 (.ref l) (E := E) (Q₁ := fun v s1 => v = .ref s.heap.objs.size ∧ s1 = { s with heap := withSet w s.heap }) ⟨rfl, rfl⟩) fun r s1 got => ?_
  cases r with
  | error e => exact got
  | ok f =>
    cases f with
    | ret v =>
      obtain ⟨rfl, rfl⟩ := got
      have ty : Shared.TypeIs { s with heap := withSet w s.heap } (.ref s.heap.objs.size) "set" := ⟨_, Heap.get?_push_size _ rfl, rfl⟩
      have b1 := F.called_set.init.lookup
      have b2 := F.called_set.init.bind (.ref s.heap.objs.size)
      repeat (any_goals (first | assumption | wp_step))
      refine codeAny_mono (codeAny_call_builtin (R := wants (fun r s2 => r = .none ∧ ∃ h' tk L es ep t, s2 = { s with heap := h', toks := tk } ∧ Tab P w h' s.heap.objs.size L es ep t ∧ Has ks ks.length L ∧ ∀ b o, s.heap.get? b = some o → h'.get? b = some o) E)
        F.called_set.init.plain F.entry_set_init (check_set_init_1 ty (set_fill ks (by simp [calm]) hl it keys few (by show A.units + 1 + 1 + 1 + 8 < cLine; omega) fun h' tk L es ep t T has k => ⟨rfl, h', tk, L, es, ep, t, rfl, T, has, k⟩))) fun r s2 got2 => ?_
      cases r with
      | error e => exact got2
      | ok f2 =>
        cases f2 with
        | ret v2 =>
          obtain ⟨rfl, h', tk, L, es, ep, t, rfl, T, has, k⟩ := got2
          repeat (any_goals (first | assumption | wp_step))
          exact goal _ _ _ _ _ _ T has k
        | _ => exact got2.elim
    | _ => exact got.elim
end
end DLS
/-! DLS3: sorted over a set of nested keys. -/
namespace DLS
open PySem PySem.Spec PyProof.Rows L2 PySem.W
mutual
/-- the data that a key is -/
def pyK : NK → PyData
  | .none => .none
  | .num i => .int i
  | .text x => .str x
  | .tup ks => .tuple (pyKs ks)
def pyKs : List NK → List PyData
  | [] => []
  | k :: ks => pyK k :: pyKs ks
end
abbrev rowD (p : Row) : PyData := pyK p.2
theorem each_refs : ∀ L : List Row, EachIs (fun v (p : Row) => v = Value.ref p.1) (L.map fun p => Value.ref p.1) L
  | [] => .nil
  | p :: L => .cons rfl (each_refs L)
theorem each_refs_of {Rl : Value → Row → Prop} : ∀ L : List Row, (∀ p ∈ L, Rl (.ref p.1) p) → EachIs Rl (L.map fun p => Value.ref p.1) L
  | [], _ => .nil
  | p :: L, h => .cons (h p List.mem_cons_self) (each_refs_of L fun q hq => h q (List.mem_cons_of_mem _ hq))
theorem refs_of_each : ∀ {vs : List Value} {L : List Row}, EachIs (fun v (p : Row) => v = Value.ref p.1) vs L → vs = L.map fun p => Value.ref p.1
  | _, _, .nil => rfl
  | _, _, .cons h r => by rw [h, refs_of_each r]; rfl
theorem perm_refs {L : List Row} {vs : List Value} (h : vs.Perm (L.map fun p => Value.ref p.1)) : ∃ M : List Row, M.Perm L ∧ vs = M.map fun p => Value.ref p.1 := by
  obtain ⟨M, pM, e⟩ := perm_lift (fun p : Row => Value.ref p.1) h L rfl
  exact ⟨M, pM, e.symm⟩
mutual
theorem no_lists {h : Heap} : ∀ (k : NK) (v : Value) (as : List Addr), Reads h v (pyK k) as → as = []
  | .none, _, _, r => by cases r; rfl
  | .num _, _, _, r => by cases r; rfl
  | .text _, _, _, r => by cases r; rfl
  | .tup ks, _, _, r => by
    cases r with
    | tuple _ _ _ r => exact no_lists_all ks _ _ r
theorem no_lists_all {h : Heap} : ∀ (ks : List NK) (vs : List Value) (as : List Addr), ReadsAll h vs (pyKs ks) as → as = []
  | [], _, _, r => by cases r; rfl
  | k :: ks, _, _, r => by
    cases r with
    | cons r1 r2 => rw [no_lists k _ _ r1, no_lists_all ks _ _ r2]; rfl
end
section
variable {P : Program} {w : World} {A : Around} {E : Value → Shared → Prop} {s : Shared}
theorem sorted_tab {a : Addr} {L : List Row} {es : Array (Int × Value)} {ep : Nat} {t : SetTable} {Q : Value → Shared → Prop} (T : Tab P w s.heap a L es ep t) (calm : A.handled = none)
    (reads : ∀ p ∈ L, ∃ as, Reads s.heap (.ref p.1) (rowD p) as) (al : AllAlike (L.map rowD)) (so : Sortable (L.map rowD)) (room : ∀ p ∈ L, A.units + 4 + (rowD p).depth < cLine)
    (goal : ∀ s' p (out : Array Value) (c : Nat) (M : List Row), (∀ b o, s.heap.get? b = some o → s'.heap.get? b = some o) → s'.gens = s.gens → s'.os = s.os → s.heap.objs.size ≤ p →
      s'.heap.get? p = some (seqObj "list" out c) → out.toList = (M.mergeSort (dataLe false rowD)).map (fun q => Value.ref q.1) → M.Perm L → Q (.ref p) s') :
    wpAny (model P w) A (call (.builtin "sorted") [.ref a]) Q E s := by
  obtain ⟨o, ho, hex, hd⟩ := T.obj
  have few := T.few
  have size := T.size
  refine Calls.call_function_entry kind_sorted plain_sorted entry_sorted (args_sorted1 _) ?_
  unfold Builtin.«sorted»
  refine wpAny_bind (m := checkCount "sorted" 1 1 _) (wpAny_pure ?_)
  refine wpAny_bind (collect_set (A := A.in1) calm ⟨o, ho, hex.1, hd⟩ T.fits (by unfold scanBound; omega) T.tbl.ris T.led fun s1 vs k1 z1 g1 o1 pm => ?_)
  have mapped : es.toList.map (·.2) = L.map fun p => Value.ref p.1 := by
    rw [T.row]
    show (L.map _).map _ = _
    rw [List.map_map] <;> rfl
  rw [mapped] at pm
  obtain ⟨M, pM, rfl⟩ := perm_refs pm
  have lenM : M.length < 64 := by rw [pM.length_eq]; exact few
  have al1 : AllAlike (M.map rowD) := fun d hd d' hd' => al d ((pM.map rowD).mem_iff.mp hd) d' ((pM.map rowD).mem_iff.mp hd')
  have so1 : Sortable (M.map rowD) := by
    rcases so with h | h
    · exact .inl fun d hd => h d ((pM.map rowD).mem_iff.mp hd)
    · exact .inr fun d hd => h d ((pM.map rowD).mem_iff.mp hd)
  refine wpAny_bind (wpAny_newList ?_ (by rw [sizeLine_eq, List.length_map]; omega))
  have hoL : (s1.heap.push (seqObj "list" (M.map fun p => Value.ref p.1).toArray 0)).get? s1.heap.objs.size = some (seqObj "list" (M.map fun p => Value.ref p.1).toArray 0) := Heap.get?_push_size _ rfl
  have rd : ∀ p ∈ M, ∃ as, Reads (s1.heap.push (seqObj "list" (M.map fun p => Value.ref p.1).toArray 0)) (.ref p.1) (rowD p) as ∧ s1.heap.objs.size ∉ as := fun p hp => by
    obtain ⟨as, r⟩ := reads p (pM.mem_iff.mp hp)
    rw [no_lists _ _ _ r] at r
    exact ⟨[], Reads.keeps (fun b u e => Heap.get?_push_of_some _ (k1 b u e)) r, List.not_mem_nil⟩
  refine wpAny_bind (wpAny_holding (list_sort_data (s := { s1 with heap := s1.heap.push (seqObj "list" (M.map fun p => Value.ref p.1).toArray 0) }) hoL (each_refs M) (each_refs_of M rd) al1 so1 (by rw [sizeLine_eq]; omega) (fun p hp => ?_) fun out len e => ?_))
  · have := room p (pM.mem_iff.mp hp)
    show A.units + 1 + 1 + _ < cLine
    omega
  obtain ⟨c, hc⟩ := sortedHeap_at (vs := M.map fun p => Value.ref p.1) (out := out.toArray) hoL
  refine wpAny_pure ⟨_, rfl, goal _ s1.heap.objs.size out.toArray c M (fun b u e1 => ?_) g1 o1 z1 hc (refs_of_each e) pM⟩
  have q := k1 b u e1
  have lt := Heap.lt_size q
  show (sortedHeap (s1.heap.push (seqObj "list" (M.map fun p => Value.ref p.1).toArray 0)) s1.heap.objs.size _ out.toArray).get? b = some u
  rw [sortedHeap_old (Nat.ne_of_lt lt) (by rw [Heap.size_push]; exact Nat.lt_succ_of_lt lt)]
  exact Heap.get?_push_of_some _ q
end
end DLS
/-! DLS4: the expression sorted(set(e)). -/
namespace DLS
open PySem PySem.Spec PyProof.Rows L2 PySem.W DL
mutual
theorem nested_of {h : Heap} : ∀ (k : NK) (v : Value) (as : List Addr), Reads h v (pyK k) as → NestedIs h k v
  | .none, _, _, r => by cases r; exact .none
  | .num _, _, _, r => by cases r; exact .int ..
  | .text _, _, _, r => by cases r; exact .text ..
  | .tup ks, _, _, r => by
    cases r with
    | tuple h1 h2 h3 r => exact .tup h1 h2 h3 (nested_all ks _ _ r)
theorem nested_all {h : Heap} : ∀ (ks : List NK) (vs : List Value) (as : List Addr), ReadsAll h vs (pyKs ks) as → NestedAll h ks vs
  | [], _, _, r => by cases r; exact .nil
  | k :: ks, _, _, r => by
    cases r with
    | cons r1 r2 => exact .cons (nested_of k _ _ r1) (nested_all ks _ _ r2)
end
/-- the row's tuple is known to be its key -/
structure KeyH (K : PySem.W.Frag) (H : Hp) (p : Row) : Prop where
  dp : Dp K H (.ref p.1) (rowD p)
  deep : p.2.depth ≤ 8
  pl : plainK p.2 = true
  deep2 : (rowD p).depth ≤ 32
abbrev refsOf (ks : List Row) : List V := ks.map fun p => V.ref p.1
def tSortSet (K : PySem.W.Frag) (ta : TE) : TE := fun σ H Q => ta σ H fun x H1 => ∃ (l : Addr) (ks : List Row), x = V.ref l ∧ SqL K H1 l (refsOf ks) ∧ (∀ p ∈ ks, KeyH K H1 p) ∧ ks.length < 64 ∧ AllAlike (ks.map rowD) ∧ Sortable (ks.map rowD) ∧
  ∀ (r : Addr) (M : List Row), H1 r = none → (∀ p ∈ M, p ∈ ks) → (∀ p ∈ ks, p.2 ∈ M.map (·.2)) → (M.map (·.2)).Nodup → M.Pairwise (fun a b => dataLe false rowD a b = true) → Q (.ref r) (upd H1 r (.lst (refsOf M)))
theorem refs_vals : ∀ {ks : List Row} {us : List Value}, Vals (refsOf ks) us → us = ks.map fun p => Value.ref p.1
  | [], _, .nil => rfl
  | p :: ks, _, .cons r t => by
    cases r
    rw [refs_vals t] <;> rfl
theorem vals_refs : ∀ ks : List Row, Vals (refsOf ks) (ks.map fun p => Value.ref p.1)
  | [] => .nil
  | p :: ks => .cons rfl (vals_refs ks)
theorem le_trans_rows (a b c : Row) (h1 : dataLe false rowD a b = true) (h2 : dataLe false rowD b c = true) : dataLe false rowD a c = true := by
  rw [dataLe_eq] at h1 h2 ⊢
  simp only [cond_false, Bool.not_eq_true', Bool.not_eq_eq_eq_not, Bool.not_true] at h1 h2 ⊢
  cases q : dataLt (rowD c) (rowD a) with
  | false => rfl
  | true =>
    rcases lex_negTrans (O := itemOrd) _ (keyToks (rowD b)) _ q with z | z
    · have h2' : PyProof.Rows.lexLt itemOrd (keyToks (rowD c)) (keyToks (rowD b)) = false := h2
      rw [h2'] at z; cases z
    · have h1' : PyProof.Rows.lexLt itemOrd (keyToks (rowD b)) (keyToks (rowD a)) = false := h1
      rw [h1'] at z; cases z
theorem le_total_rows (a b : Row) : (dataLe false rowD a b || dataLe false rowD b a) = true := by
  rw [dataLe_eq]
  simp only [cond_false]
  cases q : dataLt (rowD b) (rowD a) with
  | false => rfl
  | true =>
    cases q2 : dataLt (rowD a) (rowD b) with
    | false => rfl
    | true =>
      have z := lex_trans (O := itemOrd) _ _ _ q q2
      rw [lex_irrefl] at z
      cases z
section
variable {X : Cx}
theorem key_of {pins : List (Addr × Obj)} {σ : DL.St} {H : Hp} {s : Shared} {p : Row} (I : Inv X pins σ H s) (h : KeyH X.K H p) : Key s.heap p.2 p.1 ∧ ∃ as, Reads s.heap (.ref p.1) (rowD p) as := by
  obtain ⟨as, r⟩ := Dp.reads I (rowD p) (.ref p.1) (.ref p.1) h.dp rfl
  exact ⟨⟨nested_of _ _ _ r, h.deep, h.pl⟩, as, r⟩
theorem pe_sortSet {a : Expr} {ta : TE} {x y : Str} {p p2 q pos : Pos} (hc : X.calm = true) (hu : X.A.units + 64 < cLine) (hg : Gl X x) (hm : X.mg x = none) (hv : bootBuiltins x = some (.builtin "sorted")) (hg2 : Gl X y) (hm2 : X.mg y = none) (hv2 : bootBuiltins y = some (.type "set")) (ha : PE X a ta)
    (na : starEach [a] X.env = (false, eval a X.env) :: starEach [] X.env := by rfl) (hn : x ≠ "__name__" := by decide) (hdb : (x == ("__debug__" : Str)) = false := by decide) (hn2 : y ≠ "__name__" := by decide) (hdb2 : (y == ("__debug__" : Str)) = false := by decide) :
    PE X (.Call (.Name x p) [.Call (.Name y p2) [a] [] q] [] pos) (tSortSet X.K ta) := by
  refine ⟨fun pins s σ H Q I h => ?_⟩
  refine Call_ (ld_blt I hg hm hv ?_ hn hdb)
  refine PyProof.Rows.callWith_builtin1 (PyProof.Rows.args_cons ?_ rfl) rfl rfl
  refine Call_ (ld_blt I hg2 hm2 hv2 ?_ hn2 hdb2)
  refine PyProof.Rows.callWith_type1 (PyProof.Rows.args_cons (thn (ha.run pins s σ H _ I h) fun v s1 ⟨xv, H1, I1, r1, q1⟩ => PyProof.Rows.args_nil ?_) na) na rfl
  obtain ⟨l, ks, rfl, hl, keys, few, al, so, q1⟩ := q1
  cases r1
  obtain ⟨its, rv, pl, hz⟩ := I1.list hl
  have rooms : ∀ p ∈ ks, (rowD p).depth ≤ 32 := fun p hp => (keys p hp).deep2
  refine call_set (P := X.prog) (w := X.w) ks (I1.ok.hd hc) pl.isList (by simpa using refs_vals rv) (fun p hp => (key_of I1 (keys p hp)).1) few (by omega) fun h' tk L es ep t T has k => ?_
  have sub : ∀ p ∈ L, p ∈ ks := fun p hp => List.mem_of_mem_take (has.from_ p hp)
  refine PyProof.Rows.args_nil ?_
  refine sorted_tab (s := { s1 with heap := h', toks := tk }) T (I1.ok.hd hc) (fun p hp => ?_) (fun d hd d' hd' => ?_) ?_ (fun p hp => ?_) fun s2 r out c M k2 g2 o2 z2 hr hout pm => ?_
  · obtain ⟨as, rd⟩ := (key_of I1 (keys p (sub p hp))).2
    exact ⟨as, Reads.keeps k rd⟩
  · obtain ⟨p1, m1, rfl⟩ := List.mem_map.mp hd
    obtain ⟨p2, m2, rfl⟩ := List.mem_map.mp hd'
    exact al _ (List.mem_map.mpr ⟨p1, sub p1 m1, rfl⟩) _ (List.mem_map.mpr ⟨p2, sub p2 m2, rfl⟩)
  · rcases so with z | z
    · exact .inl fun d hd => by
        obtain ⟨p1, m1, rfl⟩ := List.mem_map.mp hd
        exact z _ (List.mem_map.mpr ⟨p1, sub p1 m1, rfl⟩)
    · exact .inr fun d hd => by
        obtain ⟨p1, m1, rfl⟩ := List.mem_map.mp hd
        exact z _ (List.mem_map.mpr ⟨p1, sub p1 m1, rfl⟩)
  · have := rooms p (sub p hp)
    omega
  · have pm2 : (M.mergeSort (dataLe false rowD)).Perm L := (List.mergeSort_perm M _).trans pm
    have sorted : (M.mergeSort (dataLe false rowD)).Pairwise (fun a b => dataLe false rowD a b = true) := List.pairwise_mergeSort le_trans_rows le_total_rows M
    generalize M.mergeSort (dataLe false rowD) = M1 at hout pm2 sorted
    have lt : s1.heap.objs.size ≤ r := by
      have e := T.obj
      obtain ⟨o, ho, _⟩ := e
      have := Heap.lt_size ho
      exact Nat.le_trans (Nat.le_of_lt this) z2
    have fresh : H1 r = none := I1.hok.fresh lt
    have few1 : M1.length < 64 := by rw [pm2.length_eq]; exact T.few
    have len : (refsOf M1).length ≤ sizeLine := by rw [List.length_map, sizeLine_eq]; omega
    have vals : Vals (refsOf M1) out.toList := by rw [hout]; exact vals_refs M1
    have k3 : ∀ b o, s1.heap.get? b = some o → s2.heap.get? b = some o := fun b o e => k2 b o (k b o e)
    have J : Inv X pins σ (upd H1 r (.lst (refsOf M1))) { s1 with heap := s2.heap, gens := s2.gens, drawn := s2.drawn, toks := s2.toks } :=
      I1.call (ch := []) (Un.laid k3 lt fresh) (I1.hok.laid k3 lt ⟨len, out.toList, c, vals, hr⟩) (by rw [g2]; exact I1.bare) (fun _ z => nomatch z)
    have e : s2 = { s1 with heap := s2.heap, gens := s2.gens, drawn := s2.drawn, toks := s2.toks } := by
      cases s2
      cases s1
      cases o2
      rfl
    rw [e]
    refine ⟨.ref r, _, J, rfl, q1 r M1 fresh (fun p hp => sub p (pm2.mem_iff.mp hp)) (fun p hp => ?_) ((pm2.map (·.2)).nodup_iff.mpr T.once) sorted⟩
    exact ((pm2.map (·.2)).mem_iff).mpr (has.each p (by rw [List.take_length]; exact hp))
end
end DLS
/-! DLS5: what sorted(set(e)) computes, on data. -/
namespace DLS
open PySem PySem.Spec PyProof.Rows L2 PySem.W DL
mutual
/-- the key that data is -/
def keyOf : D → Option NK
  | .non => some .none
  | .int i => some (.num i)
  | .tup ds => (keysOf ds).map .tup
  | .bl _ => none
  | .str _ => none
  | .lst _ => none
  | .scr _ => none
  | .ins _ _ => none
  | .typ _ => none
  | .adr _ => none
  | .xn .. => none
  | .dct _ => none
def keysOf : List D → Option (List NK)
  | [] => some []
  | d :: ds => match keyOf d, keysOf ds with
    | some k, some ks => some (k :: ks)
    | _, _ => none
end
mutual
/-- the data that a key is -/
def dK : NK → D
  | .none => .non
  | .num i => .int i
  | .text x => .str x
  | .tup ks => .tup (dKs ks)
def dKs : List NK → List D
  | [] => []
  | k :: ks => dK k :: dKs ks
end
theorem dKs_map : ∀ ks : List NK, dKs ks = ks.map dK
  | [] => rfl
  | k :: ks => by rw [dKs, dKs_map ks]; rfl
mutual
theorem keyOf_dK : ∀ (d : D) (k : NK), keyOf d = some k → dK k = d
  | .non, k, h => by simp [keyOf] at h; subst h; rfl
  | .int i, k, h => by simp [keyOf] at h; subst h; rfl
  | .tup ds, k, h => by
    simp only [keyOf] at h
    cases q : keysOf ds with
    | none => rw [q] at h; cases h
    | some ks => rw [q] at h; simp at h; subst h; rw [dK, keysOf_dK ds ks q]
  | .bl _, k, h => by simp [keyOf] at h
  | .str _, k, h => by simp [keyOf] at h
  | .lst _, k, h => by simp [keyOf] at h
  | .scr _, k, h => by simp [keyOf] at h
  | .ins _ _, k, h => by simp [keyOf] at h
  | .typ _, k, h => by simp [keyOf] at h
  | .adr _, k, h => by simp [keyOf] at h
  | .xn .., k, h => by simp [keyOf] at h
  | .dct _, k, h => by simp [keyOf] at h
theorem keysOf_dK : ∀ (ds : List D) (ks : List NK), keysOf ds = some ks → dKs ks = ds
  | [], ks, h => by simp [keysOf] at h; subst h; rfl
  | d :: ds, ks, h => by
    simp only [keysOf] at h
    cases q : keyOf d with
    | none => rw [q] at h; cases h
    | some k =>
      cases q' : keysOf ds with
      | none => rw [q, q'] at h; cases h
      | some ks' => rw [q, q'] at h; simp at h; subst h; rw [dKs, keyOf_dK d k q, keysOf_dK ds ks' q']
end
mutual
theorem keyOf_py : ∀ (d : D) (k : NK), keyOf d = some k → toPy d = some (pyK k)
  | .non, k, h => by simp [keyOf] at h; subst h; rfl
  | .int i, k, h => by simp [keyOf] at h; subst h; rfl
  | .tup ds, k, h => by
    simp only [keyOf] at h
    cases q : keysOf ds with
    | none => rw [q] at h; cases h
    | some ks => rw [q] at h; simp at h; subst h; rw [toPy, keysOf_py ds ks q]; rfl
  | .bl _, k, h => by simp [keyOf] at h
  | .str _, k, h => by simp [keyOf] at h
  | .lst _, k, h => by simp [keyOf] at h
  | .scr _, k, h => by simp [keyOf] at h
  | .ins _ _, k, h => by simp [keyOf] at h
  | .typ _, k, h => by simp [keyOf] at h
  | .adr _, k, h => by simp [keyOf] at h
  | .xn .., k, h => by simp [keyOf] at h
  | .dct _, k, h => by simp [keyOf] at h
theorem keysOf_py : ∀ (ds : List D) (ks : List NK), keysOf ds = some ks → toPyL ds = some (pyKs ks)
  | [], ks, h => by simp [keysOf] at h; subst h; rfl
  | d :: ds, ks, h => by
    simp only [keysOf] at h
    cases q : keyOf d with
    | none => rw [q] at h; cases h
    | some k =>
      cases q' : keysOf ds with
      | none => rw [q, q'] at h; cases h
      | some ks' => rw [q, q'] at h; simp at h; subst h; rw [toPyL, keyOf_py d k q, keysOf_py ds ks' q']; rfl
end
mutual
theorem eqv_key : ∀ (a b : NK), PyData.eqv (pyK a) (pyK b) = true → a = b
  | .none, b, h => by cases b <;> first | rfl | (simp [pyK, PyData.eqv] at h)
  | .num i, b, h => by cases b <;> first | (simp [pyK, PyData.eqv] at h; subst h; rfl) | (simp [pyK, PyData.eqv] at h)
  | .text x, b, h => by cases b <;> first | (simp [pyK, PyData.eqv] at h; subst h; rfl) | (simp [pyK, PyData.eqv] at h)
  | .tup ks, b, h => by
    cases b with
    | tup ls =>
      simp only [pyK, PyData.eqv] at h
      rw [eqv_keys ks ls h]
    | _ => simp [pyK, PyData.eqv] at h
theorem eqv_keys : ∀ (as bs : List NK), PyData.eqvAll (pyKs as) (pyKs bs) = true → as = bs
  | [], bs, h => by cases bs <;> first | rfl | (simp [pyKs, PyData.eqvAll] at h)
  | a :: as, bs, h => by
    cases bs with
    | nil => simp [pyKs, PyData.eqvAll] at h
    | cons b bs =>
      simp only [pyKs, PyData.eqvAll, Bool.and_eq_true] at h
      rw [eqv_key a b h.1, eqv_keys as bs h.2]
end
def leK (a b : NK) : Bool := !dataLt (pyK b) (pyK a)
theorem leK_anti {a b : NK} (al : alike (pyK a) (pyK b) = true) (h1 : leK a b = true) (h2 : leK b a = true) : a = b := by
  unfold leK at h1 h2
  simp only [Bool.not_eq_true', Bool.not_eq_eq_eq_not, Bool.not_true] at h1 h2
  have e : keyToks (pyK a) = keyToks (pyK b) := lex_total (O := itemOrd) _ _ h2 h1
  cases q : PyData.eqv (pyK a) (pyK b) with
  | true => exact eqv_key a b q
  | false =>
    have z := (toks_eqv _ _ al).2 q
    have z1 := z [] [.inl 0]
    rw [e, lex_pre, lex_irrefl] at z1
    cases z1
def dedupK : List NK → List NK
  | [] => []
  | k :: ks => if k ∈ dedupK ks then dedupK ks else k :: dedupK ks
theorem mem_dedup : ∀ (ks : List NK) (k : NK), k ∈ dedupK ks ↔ k ∈ ks
  | [], k => Iff.rfl
  | x :: ks, k => by
    rw [dedupK]
    by_cases h : x ∈ dedupK ks
    · rw [if_pos h, mem_dedup ks k, List.mem_cons]
      refine ⟨.inr, fun z => z.elim (fun e => ?_) id⟩
      rw [e]; exact (mem_dedup ks x).mp h
    · rw [if_neg h, List.mem_cons, List.mem_cons, mem_dedup ks k]
theorem nodup_dedup : ∀ ks : List NK, (dedupK ks).Nodup
  | [] => List.nodup_nil
  | x :: ks => by
    rw [dedupK]
    by_cases h : x ∈ dedupK ks
    · rw [if_pos h]; exact nodup_dedup ks
    · rw [if_neg h]; exact List.nodup_cons.mpr ⟨h, nodup_dedup ks⟩
def sortK (ks : List NK) : List NK := (dedupK ks).mergeSort leK
theorem mem_sortK (ks : List NK) (k : NK) : k ∈ sortK ks ↔ k ∈ ks := by
  unfold sortK
  rw [List.mem_mergeSort]
  exact mem_dedup ks k
theorem nodup_sortK (ks : List NK) : (sortK ks).Nodup := (List.mergeSort_perm _ _).nodup_iff.mpr (nodup_dedup ks)
theorem leK_trans (a b c : NK) (h1 : leK a b = true) (h2 : leK b c = true) : leK a c = true := le_trans_rows (0, a) (0, b) (0, c) h1 h2
theorem leK_total (a b : NK) : (leK a b || leK b a) = true := le_total_rows (0, a) (0, b)
theorem sorted_sortK (ks : List NK) : (sortK ks).Pairwise (fun a b => leK a b = true) := List.pairwise_mergeSort leK_trans leK_total _
def goodK : NK → Bool
  | .tup (k :: ks) => plainK (.tup (k :: ks)) && decide ((NestedKey.tup (k :: ks)).depth ≤ 8) && decide ((pyK (.tup (k :: ks))).depth ≤ 32)
  | _ => false
def goodKs (ks : List NK) : Bool := decide (ks.length < 64) && ks.all goodK && ks.all fun a => ks.all fun b => alike (pyK a) (pyK b)
/-- sorted(set(ds)) -/
def sortSetF (ds : List D) : Option (List D) := match keysOf ds with
  | some ks => if goodKs ks = true then some ((sortK ks).map dK) else none
  | none => none
def sortSetC (s : S) (g : G) : R S := match readLL g s with
  | some ds => match sortSetF ds with
    | some zs => .ok (.d (.lst zs)) g
    | none => .bad
  | none => .bad
@[simp] def sortSetD (f : DE S) : DE S := fun ρ g => (f ρ g).bind sortSetC
/-- the rows of a list of key tuples -/
theorem rows_of {K : PySem.W.Frag} {F : Hp} : ∀ {vs : List V} {ds : List D} {ks : List NK}, DnL K F vs ds → keysOf ds = some ks → (∀ k ∈ ks, goodK k = true) → ∃ rs : List Row, vs = refsOf rs ∧ rs.map (·.2) = ks ∧ ∀ p ∈ rs, Dn K F (.ref p.1) (dK p.2) ∧ toPy (dK p.2) = some (pyK p.2)
  | _, _, ks, .nil, e, _ => by
    simp [keysOf] at e
    subst e
    exact ⟨[], rfl, rfl, fun _ z => nomatch z⟩
  | _, _, ks, @DnL.cons _ _ v vs d ds h r, e, good => by
    simp only [keysOf] at e
    cases q : keyOf d with
    | none => rw [q] at e; cases e
    | some k =>
      cases q' : keysOf ds with
      | none => rw [q, q'] at e; cases e
      | some ks' =>
        rw [q, q'] at e
        simp at e
        subst e
        obtain ⟨rs, e1, e2, h3⟩ := rows_of r q' fun k hk => good k (List.mem_cons_of_mem _ hk)
        have g := good k List.mem_cons_self
        have back := keyOf_dK d k q
        have py := keyOf_py d k q
        cases k with
        | tup ls =>
          rw [dK] at back
          subst back
          cases h with
          | @tup a xs _ h1 h2 =>
            refine ⟨(a, .tup ls) :: rs, by rw [e1]; rfl, by rw [List.map_cons, e2], fun p hp => ?_⟩
            rcases List.mem_cons.mp hp with z | z
            · rw [z]; exact ⟨by rw [dK]; exact .tup h1 h2, by rw [dK]; exact py⟩
            · exact h3 p z
        | _ => cases g
theorem dnl_refs {K : PySem.W.Frag} {F : Hp} : ∀ (M : List Row), (∀ p ∈ M, Dn K F (.ref p.1) (dK p.2)) → DnL K F (refsOf M) (M.map fun p => dK p.2)
  | [], _ => .nil
  | p :: M, h => .cons (h p List.mem_cons_self) (dnl_refs M fun q hq => h q (List.mem_cons_of_mem _ hq))
theorem pairs_map {α β : Type} {R : β → β → Prop} {f : α → β} {l : List α} (h : l.Pairwise fun a b => R (f a) (f b)) : (l.map f).Pairwise R := List.pairwise_map.mpr h
section
variable {X : Cx} {W : WX} {a : Expr} {f1 : DE S} {x y : Str} {p p2 q pos : Pos}
theorem sortSet_weak : ∀ σ H Q, tD X.K W (sortSetD f1) σ H Q → tSortSet X.K (tD X.K W f1) σ H Q := fun σ H Q ⟨μ, F, g, ρ, rp, re, z⟩ =>
  ⟨μ, F, g, ρ, rp, re, (Post.step (rel := relS X.K) z).imp fun v H1 ⟨μ1, F1, s1, g1, x1, r1, sn, p1⟩ => by
    unfold sortSetC at p1
    cases e1 : readLL g1 s1 with
    | none => rw [e1] at p1; exact p1.elim
    | some ds =>
      rw [e1] at p1
      dsimp only at p1
      unfold sortSetF at p1
      cases e2 : keysOf ds with
      | none => rw [e2] at p1; exact p1.elim
      | some ks =>
        rw [e2] at p1
        dsimp only at p1
        by_cases hg : goodKs ks = true
        · rw [if_pos hg] at p1
          obtain ⟨l, xs, rfl, hl, hd⟩ := readLL_ok r1 sn e1
          unfold goodKs at hg
          simp only [Bool.and_eq_true, decide_eq_true_eq, List.all_eq_true] at hg
          obtain ⟨⟨few, good⟩, al⟩ := hg
          obtain ⟨rs, rfl, rfl, hrs⟩ := rows_of hd e2 good
          have len : rs.length < 64 := by rw [List.length_map] at few; exact few
          have gk : ∀ p ∈ rs, goodK p.2 = true := fun p hp => good _ (List.mem_map.mpr ⟨p, hp, rfl⟩)
          refine ⟨l, rs, rfl, hl, fun p hp => ?_, len, ?_, ?_, fun r M fresh sub all nd pw => ?_⟩
          · obtain ⟨d1, d2⟩ := hrs p hp
            have z := gk p hp
            obtain ⟨pa, pk⟩ := p
            dsimp only at z d1 d2
            cases pk with
            | tup ls =>
              cases ls with
              | nil => cases z
              | cons k0 ls =>
                simp only [goodK, Bool.and_eq_true, decide_eq_true_eq] at z
                exact ⟨toPy_ok (d1.mono r1.ex) d2, z.1.2, z.1.1, z.2⟩
            | _ => cases z
          · intro d hd1 d' hd2
            obtain ⟨p, hp, rfl⟩ := List.mem_map.mp hd1
            obtain ⟨p', hp', rfl⟩ := List.mem_map.mp hd2
            exact al p.2 (List.mem_map.mpr ⟨p, hp, rfl⟩) p'.2 (List.mem_map.mpr ⟨p', hp', rfl⟩)
          · refine .inl fun d hd1 => ?_
            obtain ⟨p, hp, rfl⟩ := List.mem_map.mp hd1
            have z := gk p hp
            obtain ⟨pa, pk⟩ := p
            dsimp only at z ⊢
            cases pk with
            | tup ls =>
              cases ls with
              | nil => cases z
              | cons k0 ls => exact ⟨_, _, rfl⟩
            | _ => cases z
          · have same : M.map (·.2) = sortK (rs.map (·.2)) := by
              refine List.Perm.eq_of_pairwise (le := fun a b => leK a b = true) (fun a b ha hb h1 h2 => ?_) (pairs_map pw) (sorted_sortK _) ?_
              · obtain ⟨p, hp, rfl⟩ := List.mem_map.mp ha
                have hb := (mem_sortK _ _).mp hb
                exact leK_anti (al p.2 (List.mem_map.mpr ⟨p, sub p hp, rfl⟩) b hb) h1 h2
              · refine (List.perm_ext_iff_of_nodup nd (nodup_sortK _)).mpr fun k => ?_
                rw [mem_sortK]
                refine ⟨fun h => ?_, fun h => ?_⟩
                · obtain ⟨p, hp, rfl⟩ := List.mem_map.mp h
                  exact List.mem_map.mpr ⟨p, sub p hp, rfl⟩
                · obtain ⟨p, hp, rfl⟩ := List.mem_map.mp h
                  exact all p hp
            rw [← same, List.map_map] at p1
            have ext := Ext.new (μ := μ1) (o := HO.lst (refsOf M)) (r1.fresh fresh)
            exact p1 μ1 _ _ _ ext (r1.new fresh) (.d (.lst upd_same (dnl_refs M fun p hp => ((hrs p (sub p hp)).1).mono ext.f)))
        · rw [if_neg hg] at p1; exact p1.elim⟩
theorem ed_sortSet (hc : X.calm = true) (hu : X.A.units + 64 < cLine) (hg : Gl X x) (hm : X.mg x = none) (hv : bootBuiltins x = some (.builtin "sorted")) (hg2 : Gl X y) (hm2 : X.mg y = none) (hv2 : bootBuiltins y = some (.type "set")) (ha : ED X W a f1)
    (na : starEach [a] X.env = (false, eval a X.env) :: starEach [] X.env := by rfl) (hn : x ≠ "__name__" := by decide) (hdb : (x == ("__debug__" : Str)) = false := by decide) (hn2 : y ≠ "__name__" := by decide) (hdb2 : (y == ("__debug__" : Str)) = false := by decide) :
    ED X W (.Call (.Name x p) [.Call (.Name y p2) [a] [] q] [] pos) (sortSetD f1) :=
  pe_weak (pe_sortSet hc hu hg hm hv hg2 hm2 hv2 ha na hn hdb hn2 hdb2) sortSet_weak
end
end DLS
/-! DLR: list(range(n)). -/
namespace DL
open PySem PySem.Spec PyProof.Rows L2
theorem dnl_rg {K : PySem.W.Frag} {F : Hp} (a b : Int) : DnL K F (rgV a b) (rangeL a b) := by
  unfold rgV rangeL
  generalize List.range (b - a).toNat = l
  induction l with
  | nil => exact .nil
  | cons x l ih => exact .cons (.int _) ih
noncomputable def lrgOk (j : Int) : Bool := @decide (j ≤ 16777216 ∧ -16777216 ≤ j) (Classical.propDecidable _)
theorem lrgOk_iff {j : Int} : lrgOk j = true ↔ j ≤ 16777216 ∧ -16777216 ≤ j := by
  unfold lrgOk
  exact @decide_eq_true_iff _ (Classical.propDecidable _)
/-- list(range(n)), as a cell; as data -/
noncomputable def lrgC (f : DE S) : DE S := fun ρ g => (f ρ g).bind fun s g1 => match s with
  | .d (.int j) => if lrgOk j = true then .ok (.c g1.length) (g1 ++ [.lst (rangeL 0 j)]) else .bad
  | _ => .bad
noncomputable def lrgD (f : DE S) : DE S := fun ρ g => (f ρ g).bind fun s g1 => match s with
  | .d (.int j) => if lrgOk j = true then .ok (.d (.lst (rangeL 0 j))) g1 else .bad
  | _ => .bad
section
variable {X : Cx} {W : WX} {a : Expr} {f1 : DE S} {p p2 q pos : Pos}
theorem lrg_ok {j : Int} (h : lrgOk j = true) : RgOk 0 j := by
  rw [lrgOk_iff] at h
  exact ⟨by omega, by omega, by omega, by omega, by omega⟩
theorem ed_lrgC (hc : X.calm = true) (hg : Gl X "list") (hm : X.mg "list" = none) (hg2 : Gl X "range") (hm2 : X.mg "range" = none) (ha : ED X W a f1) (na : starEach [a] X.env = (false, eval a X.env) :: starEach [] X.env := by rfl)
    (nb : starEach [Expr.Call (.Name "range" p2) [a] [] q] X.env = (false, eval (Expr.Call (.Name "range" p2) [a] [] q) X.env) :: starEach [] X.env := by rfl) : ED X W (.Call (.Name "list" p) [.Call (.Name "range" p2) [a] [] q] [] pos) (lrgC f1) :=
  pe_weak (pe_listRg hc hg hm (prg_1 hg2 hm2 ha na) nb) fun σ H Q ⟨μ, F, g, ρ, rp, re, z⟩ =>
    ⟨μ, F, g, ρ, rp, re, (Post.step (rel := relS X.K) z).imp fun v H1 ⟨μ1, F1, s1, g1, x1, r1, sn, p1⟩ => by
      split at p1
      · rename_i j
        by_cases hj : lrgOk j = true
        · rw [if_pos hj] at p1
          cases sn with
          | d sn =>
            cases sn
            exact ⟨j, rfl, lrg_ok hj, fun l hl => p1 (μ1 ++ [[l]]) F1 _ _ Ext.push (r1.push hl ⟨l, rfl, r1.fresh hl, _, upd_same, dnl_rg 0 j⟩) (.c (l := []) (by rw [← r1.len]; simp))⟩
        · rw [if_neg hj] at p1; exact p1.elim
      · exact p1.elim⟩
theorem ed_lrgD (hc : X.calm = true) (hg : Gl X "list") (hm : X.mg "list" = none) (hg2 : Gl X "range") (hm2 : X.mg "range" = none) (ha : ED X W a f1) (na : starEach [a] X.env = (false, eval a X.env) :: starEach [] X.env := by rfl)
    (nb : starEach [Expr.Call (.Name "range" p2) [a] [] q] X.env = (false, eval (Expr.Call (.Name "range" p2) [a] [] q) X.env) :: starEach [] X.env := by rfl) : ED X W (.Call (.Name "list" p) [.Call (.Name "range" p2) [a] [] q] [] pos) (lrgD f1) :=
  pe_weak (pe_listRg hc hg hm (prg_1 hg2 hm2 ha na) nb) fun σ H Q ⟨μ, F, g, ρ, rp, re, z⟩ =>
    ⟨μ, F, g, ρ, rp, re, (Post.step (rel := relS X.K) z).imp fun v H1 ⟨μ1, F1, s1, g1, x1, r1, sn, p1⟩ => by
      split at p1
      · rename_i j
        by_cases hj : lrgOk j = true
        · rw [if_pos hj] at p1
          cases sn with
          | d sn =>
            cases sn
            exact ⟨j, rfl, lrg_ok hj, fun l hl => p1 μ1 _ _ _ (Ext.new (r1.fresh hl)) (r1.new hl) (.d (.lst upd_same (dnl_rg 0 j)))⟩
        · rw [if_neg hj] at p1; exact p1.elim
      · exact p1.elim⟩
end
end DL
/-! DLR2: sorted over a tuple. -/
namespace DLS
open PySem PySem.Spec PyProof.Rows L2 PySem.W
section
variable {P : Program} {w : World} {A : Around} {E : Value → Shared → Prop} {s : Shared}
theorem collect_tup {l : Addr} {vs : List Value} {Q : List Value → Shared → Prop} {o : Obj} {n : Nat} (ho : s.heap.get? l = some o) (hc : o.cls = .type "tuple") (hd : o.data = .seq vs.toArray n) (small : vs.length ≤ sizeLine)
    (goal : ∀ h', (∀ b u, s.heap.get? b = some u → h'.get? b = some u) → s.heap.objs.size ≤ h'.objs.size → Q vs { s with heap := h' }) : wpAny (model P w) A (collect (.ref l)) Q E s := by
  unfold collect
  refine wpAny_bind (wpAny_runValue (codeAny_builtin F.entry_proto_collect ?_))
  rw [Around.under_plainId F.plain_proto_collect _]
  show wpAny _ A.in1 (newList [] >>= fun x => again (.builtin "list.__iadd__" ⟨[x, .ref l], []⟩)) _ _ s
  refine wpAny_bind (wpAny_newList (wpAny_pure ⟨plainId_quiet F.plain_list_iadd _, codeAny_builtin F.entry_list_iadd ?_⟩))
  rw [Around.under_plainId F.plain_list_iadd _]
  show wpAny _ _ (Builtin.List.listExtendWith (.ref s.heap.objs.size) (.ref l) (.ref s.heap.objs.size)) _ _ { s with heap := s.heap.push (seqObj "list" #[] 0) }
  unfold Builtin.List.listExtendWith
  have ho1 : (s.heap.push (seqObj "list" #[] 0)).get? l = some o := Heap.get?_push_of_some _ ho
  have new : (s.heap.push (seqObj "list" #[] 0)).get? s.heap.objs.size = some (seqObj "list" #[] 0) := Heap.get?_push_size _ rfl
  refine wpAny_bind (wpAny_typeOf (T := "tuple") ⟨o, ho1, hc⟩ ?_)
  have yes : (Value.type "tuple" == Value.type "tuple") = true := by rfl
  rw [if_pos (by rw [yes]; simp)]
  refine wpAny_bind (listItems_at ho1 hd ?_)
  refine wpAny_bind (listItems_at (xs := #[]) (n := 0) new rfl ?_)
  rw [if_neg (by simp)]
  refine wpAny_bind (listUpdate_at (xs := #[]) (n := 0) new rfl ?_ (Nat.zero_le _) (by show (#[] ++ vs.toArray).size ≤ sizeLine + 1; simp only [Array.size_append, List.size_toArray, List.length_nil]; omega))
  refine wpAny_pure ?_
  have at1 := get?_update_seq new (fun q => q ++ vs.toArray)
  refine wpAny_bind (wpAny_load at1 ?_)
  show wpAny _ _ (pure ((#[] : Array Value) ++ vs.toArray).toList) Q E _
  rw [show ((#[] : Array Value) ++ vs.toArray).toList = vs by simp]
  refine wpAny_pure (goal _ (fun b u e => ?_) ?_)
  · rw [Heap.get?_update_ne _ _ _ _ (Nat.ne_of_lt (Heap.lt_size e))]
    exact Heap.get?_push_of_some _ e
  · rw [Heap.size_update, Heap.size_push]
    exact Nat.le_succ _
theorem sorted_tupV {β : Type} {enc : β → PyData} {R : Value → β → Prop} {vs : List Value} {bs : List β} {l : Addr} {o : Obj} {n : Nat} {Q : Value → Shared → Prop} (ho : s.heap.get? l = some o) (hc : o.cls = .type "tuple") (hd : o.data = .seq vs.toArray n) (small : vs.length ≤ sizeLine)
    (e : EachIs R vs bs) (er : EachIs (fun v b => Reads s.heap v (enc b) []) vs bs) (al : AllAlike (bs.map enc)) (so : Sortable (bs.map enc)) (room : ∀ b ∈ bs, A.units + 2 + (enc b).depth < cLine)
    (goal : ∀ s' p (out : Array Value) (c : Nat), (∀ b u, s.heap.get? b = some u → s'.heap.get? b = some u) → s'.gens = s.gens → s'.os = s.os → s.heap.objs.size ≤ p → s'.heap.get? p = some (seqObj "list" out c) → EachIs R out.toList (bs.mergeSort (dataLe false enc)) → Q (.ref p) s') :
    wpAny (model P w) A (call (.builtin "sorted") [.ref l]) Q E s := by
  refine Calls.call_function_entry kind_sorted plain_sorted entry_sorted (args_sorted1 _) ?_
  unfold Builtin.«sorted»
  refine wpAny_bind (m := checkCount "sorted" 1 1 _) (wpAny_pure ?_)
  refine wpAny_bind (collect_tup ho hc hd small fun h1 k1 z1 => ?_)
  refine wpAny_bind (wpAny_newList ?_ small)
  have hoL : (h1.push (seqObj "list" vs.toArray 0)).get? h1.objs.size = some (seqObj "list" vs.toArray 0) := Heap.get?_push_size _ rfl
  have keep : ∀ b u, s.heap.get? b = some u → (h1.push (seqObj "list" vs.toArray 0)).get? b = some u := fun b u q => Heap.get?_push_of_some _ (k1 b u q)
  have len : bs.length ≤ sizeLine := by rw [← e.length]; exact small
  refine wpAny_bind (wpAny_holding (list_sort_data (s := { s with heap := h1.push (seqObj "list" vs.toArray 0) }) hoL e (er.mono fun v b r => ⟨[], Reads.keeps keep r, List.not_mem_nil⟩) al so len (fun b hb => ?_) fun out len2 e2 => ?_))
  · have := room b hb
    show A.units + 1 + 1 + _ < cLine
    omega
  obtain ⟨c, hc2⟩ := sortedHeap_at (vs := vs) (out := out.toArray) hoL
  refine wpAny_pure ⟨_, rfl, goal _ h1.objs.size out.toArray c (fun b u q => ?_) rfl rfl z1 hc2 e2⟩
  have q1 := k1 b u q
  have lt := Heap.lt_size q1
  show (sortedHeap (h1.push (seqObj "list" vs.toArray 0)) h1.objs.size _ out.toArray).get? b = some u
  rw [sortedHeap_old (Nat.ne_of_lt lt) (by rw [Heap.size_push]; exact Nat.lt_succ_of_lt lt)]
  exact Heap.get?_push_of_some _ q1
end
end DLS
/-! DLR3: sorted(x), x a list or a tuple of ints. -/
namespace DLS
open PySem PySem.Spec PyProof.Rows L2 PySem.W DL
def rSortN (K : PySem.W.Frag) : List V → Hp → VK → Prop := fun vs H Q => ∃ (a : Addr) (ns : List Int), vs = [V.ref a] ∧ (SqL K H a (ns.map V.int) ∨ SqT K H a (ns.map V.int)) ∧
  ∀ (ms : List Int) (p : Addr), ms.Perm ns → ms.Pairwise (· ≤ ·) → H p = none → Q (.ref p) (upd H p (.lst (ms.map V.int)))
theorem ints_vals : ∀ {ns : List Int} {us : List Value}, Vals (ns.map V.int) us → EachIs (fun v (n : Int) => ∃ t, v = Value.int n t) us ns
  | [], _, .nil => .nil
  | n :: ns, _, .cons r t => .cons r (ints_vals t)
theorem vals_ints : ∀ {ns : List Int} {us : List Value}, EachIs (fun v (n : Int) => ∃ t, v = Value.int n t) us ns → Vals (ns.map V.int) us
  | _, _, .nil => .nil
  | _, _, .cons r t => .cons r (vals_ints t)
theorem cr_sortN {X : Cx} (hu : X.A.units + 64 < cLine) : CallR X (.builtin "sorted") (rSortN X.K) := by
  intro pins s σ H vs us Q I r h
  obtain ⟨a, ns, rfl, hs, q⟩ := h
  rcases hs with hs | hs
  · exact cr_sortedI pins s σ H _ us Q I r ⟨a, ns, rfl, hs, q⟩
  · rw [Vals.ref1 r]
    obtain ⟨its, rv, ⟨o, ho, hc, n, hd⟩, hz⟩ := I.tuple hs
    have e := ints_vals rv
    refine sorted_tupV (vs := its) (bs := ns) (enc := PyData.int) ho hc hd (by rw [← rv.length]; exact hz) e (e.mono fun v b z => ?_) (AllAlike.of fun b b' => by simp [alike]) (Sortable.others fun b => ⟨by simp, fun xs => by simp⟩) (fun b hb => by simp only [PyData.depth]; omega) fun s2 p out c k2 g2 o2 z2 hp e2 => ?_
    · obtain ⟨t, rfl⟩ := z
      exact .int ..
    · have ord : (ns.mergeSort (dataLe false PyData.int)).Pairwise (· ≤ ·) := by
        have z : dataLe false (fun b : Int => PyData.int b) = fun a b => decide (a ≤ b) := dataLe_int (fun b => b)
        rw [show dataLe false PyData.int = fun a b : Int => decide (a ≤ b) from z]
        exact (List.pairwise_mergeSort (fun a b c h1 h2 => by simp at *; omega) (fun a b => by simp; omega) ns).imp fun h => by simpa using h
      have pm : (ns.mergeSort (dataLe false PyData.int)).Perm ns := List.mergeSort_perm _ _
      generalize ns.mergeSort (dataLe false PyData.int) = ms at e2 ord pm
      have fresh : H p = none := I.hok.fresh z2
      have len : (ms.map V.int).length ≤ sizeLine := by rw [List.length_map, pm.length_eq]; simpa using hz
      have J : Inv X pins σ (upd H p (.lst (ms.map V.int))) { s with heap := s2.heap, gens := s2.gens, drawn := s2.drawn, toks := s2.toks } :=
        I.call (ch := []) (Un.laid k2 z2 fresh) (I.hok.laid k2 z2 ⟨len, out.toList, c, vals_ints e2, hp⟩) (by rw [g2]; exact I.bare) (fun _ z => nomatch z)
      have e : s2 = { s with heap := s2.heap, gens := s2.gens, drawn := s2.drawn, toks := s2.toks } := by
        cases s2
        cases s
        cases o2
        rfl
      rw [e]
      exact ⟨.ref p, _, J, rfl, q ms p pm ord fresh⟩
def intsD : List D → Option (List Int)
  | [] => some []
  | .int i :: ds => (intsD ds).map (i :: ·)
  | _ :: _ => none
theorem intsD_eq : ∀ {ds : List D} {ns : List Int}, intsD ds = some ns → ds = ns.map D.int
  | [], ns, h => by simp [intsD] at h; subst h; rfl
  | d :: ds, ns, h => by
    cases d <;> first | (simp [intsD] at h; done) | skip
    rename_i i
    simp only [intsD] at h
    cases q : intsD ds with
    | none => rw [q] at h; cases h
    | some ms => rw [q] at h; simp at h; subst h; rw [intsD_eq q]; rfl
@[simp] theorem intsD_map (ns : List Int) : intsD (ns.map D.int) = some ns := by
  induction ns with
  | nil => rfl
  | cons n ns ih => simp [intsD, ih]
theorem dnl_ints {K : PySem.W.Frag} {F : Hp} : ∀ {ns : List Int} {vs : List V}, DnL K F vs (ns.map D.int) → vs = ns.map V.int
  | [], _, .nil => rfl
  | n :: ns, _, .cons h r => by cases h; rw [dnl_ints r]; rfl
def sortN (ns : List Int) : List Int := ns.mergeSort fun a b => decide (a ≤ b)
theorem sortN_perm (ns : List Int) : (sortN ns).Perm ns := List.mergeSort_perm _ _
theorem sortN_ord (ns : List Int) : (sortN ns).Pairwise (· ≤ ·) := (List.pairwise_mergeSort (fun a b c h1 h2 => by simp at *; omega) (fun a b => by simp; omega) ns).imp fun h => by simpa using h
def sortNF (ds : List D) : Option D := (intsD ds).map fun ns => .lst ((sortN ns).map D.int)
def sortNC : List S → G → R S := rd1 sortNF
theorem cd_sortN {K : PySem.W.Frag} : CallD K (rSortN K) sortNC := CallD.ofL fun μ F H g a xs ds z Q rp q hd e k => by
  unfold sortNF at e
  cases h : intsD ds with
  | none => rw [h] at e; cases e
  | some ns =>
    rw [h] at e
    cases e
    have e1 := intsD_eq h
    subst e1
    have e2 := dnl_ints hd
    subst e2
    refine ⟨a, ns, rfl, lt_or rp.ex q, fun ms p pm ord fresh => ?_⟩
    have same : ms = sortN ns := List.Perm.eq_of_pairwise (le := fun a b : Int => a ≤ b) (fun a b _ _ h1 h2 => Int.le_antisymm h1 h2) ord (sortN_ord ns) (pm.trans (sortN_perm ns).symm)
    subst same
    exact k μ _ _ _ (Ext.new (rp.fresh fresh)) (rp.new fresh) (.lst upd_same (DnL.ints _))
end DLS
/-! DLN: a != b, a an instance whose class has its own __eq__ and no __ne__. -/
namespace DLN
open PySem PySem.Spec PyProof.Rows PySem.W
section
variable {prog : Program} {w : World} {A : Around} {E : Value → Shared → Prop} {s : Shared} {K : Frag} {x C f L : Addr} {h0 : Heap} {m : Str → Option Value} {ox : Obj} {od : Option Obj} {b tb : Value}
theorem bound_ne {M : Model} {args : List Value} {Q : Option Value → Shared → Prop} (X : K.In s.heap) (I : InstAt s.heap x ox C od) (no : findIn K (.ref C) "__ne__" = some (some (.builtin "object.__ne__")))
    (goal : wpAny M A (call (.builtin "object.__ne__") (.ref x :: args)) (fun v => Q (some v)) E s) : wpAny M A (callSpecialIfBound? (.ref x) "__ne__" args) Q E s := by
  simp only [callSpecialIfBound?, bindSpecialIfBound?]
  refine wpAny_holding (wpAny_bind (wpAny_bind (wpAny_bind (I.type.here ((looks_findIn X no).here ?_)))))
  refine wpAny_bind (wpAny_askSetting (wpAny_ite ?_))
  have last : wpAny M A (call (.builtin "object.__ne__") ([.ref x] ++ args) >>= fun v => pure (some v)) Q E s := wpAny_bind (wpAny_mono goal (fun v s1 z => wpAny_pure z) fun _ _ z => z)
  split
  · exact wpAny_bind (wpAny_of_eq (F.cmp_object.ne.bind _) (wpAny_pure (by exact last)))
  · exact wpAny_tryCatch (wpAny_bind (wpAny_of_eq (F.cmp_object.ne.bind _) (wpAny_pure (by exact last))))
theorem body_ne {Q : PySem.Fin → Shared → Prop} (hu : A.units < cLine) (X : K.In s.heap) (I : InstAt s.heap x ox C od) (he : findIn K (.ref C) "__eq__" = some (some (.ref f))) (hf : isFn K (.ref f) = true)
    (goal : wpAny (model prog w) A (call (.ref f) [.ref x, b]) (fun v s1 => ∃ z, v = .bool z ∧ Q (.done (.ret (.bool (!z)))) s1) E s) : wpAny (model prog w) A (Builtin.«object.__ne__» ⟨[.ref x, b], []⟩) Q E s := by
  unfold Builtin.«object.__ne__»
  repeat (first
    | with_reducible refine wpAny_cRoomFor hu ?_
    | (refine wpAny_bind (m := callSpecialIfBound? (.ref x) (Str.ofString "__eq__") [b])
        (ifBound_K X I he hf (wpAny_mono goal (fun r s1 got => by
          obtain ⟨z, rfl, q⟩ := got
          repeat (first | exact q | exact wpAny_pure q | exact wpAny_truthy_bool q | (refine wpAny_bind (m := truthy (.bool _)) (wpAny_truthy_bool ?_)) | wp_step)) fun _ _ e => e)))
    | wp_step)
theorem ne_K {Q : Value → Shared → Prop} (hu : A.units + 1 < cLine) (Fr0 : Fr h0 L s.heap m) (X0 : K.In h0) (I : InstAt s.heap x ox C od) (hb : Looks (model prog w) s.heap (typeOf b) tb) (hn : notFirst K C tb = true) (obj : mroIn K C (.type "object") = some true)
    (no : findIn K (.ref C) "__ne__" = some (some (.builtin "object.__ne__"))) (he : findIn K (.ref C) "__eq__" = some (some (.ref f))) (hf : isFn K (.ref f) = true)
    (goal : wpAny (model prog w) A.in1 (call (.ref f) [.ref x, b]) (fun v s1 => ∃ z, v = .bool z ∧ Q (.bool (!z)) s1) E s) : wpAny (model prog w) A (richCompare .NotEq (.ref x) b) Q E s := by
  have X := X0.keeps Fr0.keep
  have one : wpAny (model prog w) A (tryCompare (.ref x) "__ne__" b) (fun r s1 => ∃ v, r = some v ∧ Q v s1) E s := by
    unfold tryCompare
    refine wpAny_bind (bound_ne X I no (wpAny_call (codeAny_call_builtin F.cmp_object.ne.plain F.cmpEntry_ne (PySem.W.check_slot F.cmpKind_ne F.cmpSplit_ne (I.type.andThen (looks_mroIn X obj)) (F.cmpArgs_ne _ _)
      (body_ne (A := A.in1) hu X I he hf (wpAny_mono goal (fun v s1 got => ?_) fun _ _ e => e))))))
    obtain ⟨z, rfl, q⟩ := got
    exact ⟨z, rfl, wpAny_pure ⟨_, rfl, q⟩⟩
  unfold richCompare
  simp only [oneThing_ref, cmpInfo_NotEq]
  refine wpAny_holding (wpAny_bind (wpAny_cRoomFor (Nat.lt_of_succ_lt hu) ?_))
  refine wpAny_bind (I.type.here (wpAny_bind (hb.here ?_)))
  split
  · rename_i q
    have e : subIn K tb (.ref C) = some false := by
      rcases Bool.or_eq_true_iff.mp hn with e | e
      · rw [beq_iff_eq.mp e] at q; simp at q
      · exact beq_iff_eq.mp e
    refine wpAny_bind ((looks_subIn X e).here ?_)
    simp only [Bool.false_eq_true, if_false]
    refine wpAny_bind (wpAny_mono one (fun r s1 z => ?_) fun _ _ e => e)
    obtain ⟨v, rfl, q2⟩ := z
    exact wpAny_pure q2
  · refine wpAny_bind (wpAny_pure ?_)
    simp only [Bool.false_eq_true, if_false]
    refine wpAny_bind (wpAny_mono one (fun r s1 z => ?_) fun _ _ e => e)
    obtain ⟨v, rfl, q2⟩ := z
    exact wpAny_pure q2
end
end DLN
/-! DLN2: a != b on data. -/
namespace DL
open PySem PySem.Spec PyProof.Rows L2
section
variable {X : Cx} {k : Nat} {fA : Addr} {fd : FuncData} {ps : List Str} {φ : DF}
def rNeI (K : PySem.W.Frag) (C : Addr) (sp : Sp) : R2 := fun x y H Q => ∃ a dx fs tb, x = .ref a ∧ H a = some (.ins C dx fs) ∧ TyX K H y tb ∧ PySem.W.notFirst K C tb = true ∧ sp [x, y] H (fun v H' => ∃ b, v = .bl b ∧ Q (.bl (!b)) H') (fun _ _ _ => False)
theorem op_neI {c : Addr} (Fo : FnD X.prog X.w X.K X.mg X.base k fA fd ps φ) (hs : PySem.W.findIn X.K (.ref c) "__eq__" = some (some (.ref fA))) (hf : PySem.W.isFn X.K (.ref fA) = true) (no : PySem.W.findIn X.K (.ref c) "__ne__" = some (some (.builtin "object.__ne__"))) (kc : KC X.K c) (hb : Binds X.K fd ps []) (hr : Room (k + 1) X.A) :
    OpR X (compareOp .NotEq) (rNeI X.K c (spD X.K ps.length φ)) := by
  intro pins s σ H x y v u Q I rx ry h
  obtain ⟨a, dx, fs, tb, rfl, ha, ty, nf, sp⟩ := h
  cases rx
  obtain ⟨mA, J, _⟩ := ins_get I.hok ha
  obtain ⟨od, J, _⟩ := J.look
  obtain ⟨m, hF⟩ := I.fr
  obtain ⟨P, Z, pz, _⟩ := kit_of I ry ty
  show wpAny (model X.prog X.w) X.A (richCompare .NotEq (.ref a) u) _ _ s
  have room : X.A.units + 1 < cLine := by have := hr.units; omega
  have obj : PySem.W.mroIn X.K c (.type "object") = some true := by rw [kc.mro]; simp
  refine DLN.ne_K (tb := tb) room hF I.ok.mod.kin J (Z.ty (model X.prog X.w) s.heap I.kIn pz) nf obj no hs hf ?_
  have r2 : Vals ([V.ref a, y] ++ []) ([Value.ref a, u] ++ []) := .cons rfl (.cons ry .nil)
  have hl : ([Value.ref a, u] ++ []).length = ps.length := by rw [← r2.length]; exact Fo.len _ _ _ _ (by rw [List.append_nil]; exact sp)
  refine wpAny_call (codeAny_mono (Fo.run X.A.in1 X.stack s H ⟨[.ref a, u], []⟩ _ _ (fun v H' => ∃ b, v = .bl b ∧ Q (.bl (!b)) H') (fun _ _ _ => False) hr.in1 (I.env0).in1 (hb s _ I.kIn hl) r2 (by rw [List.append_nil]; exact sp)) fun r s1 hq => ?_)
  cases r with
  | error e =>
    obtain ⟨_, _, _, _, _, _, _, _, _, _, _, _, z⟩ := hq
    exact z.elim
  | ok fl =>
    cases fl with
    | ret u =>
      obtain ⟨x1, H1, I1, r1, b, e1, q⟩ := I.after hq
      subst e1
      cases r1
      exact ⟨b, rfl, .bl (!b), H1, I1, rfl, q⟩
    | next => exact False.elim hq
    | brk => exact False.elim hq
    | cont => exact False.elim hq
def notF (r : R S) : R S := match r with
  | .ok (.d (.bl b)) g => .ok (.d (.bl (!b))) g
  | _ => .bad
@[simp] theorem notF_ok (b : Bool) (g : G) : notF (.ok (.d (.bl b)) g) = .ok (.d (.bl (!b))) g := rfl
theorem notF_post {K : PySem.W.Frag} {μ : Mp} {F : Hp} {E : XK} {r : R S} {Q : VK} (h : Post (relS K) K μ F E (notF r) Q) : Post (relS K) K μ F (fun _ _ _ => False) r (fun v H' => ∃ b, v = .bl b ∧ Q (.bl (!b)) H') := by
  cases r with
  | bad => exact h.elim
  | exc => exact h.elim
  | ok s g =>
    cases s with
    | c n => exact h.elim
    | i n => exact h.elim
    | d d =>
      cases d <;> first | exact False.elim h | skip
      intro μ' F' H' v x r sv
      cases sv with
      | d sv => cases sv; exact ⟨_, rfl, h μ' F' H' _ x r (.d (.bl _))⟩
/-- a != b, a an instance of the class c -/
def neI (c : Addr) (φ : DF) : S → S → G → R S := fun a b g => match snap g a, snap g b with
  | some (.ins C _), some d => if C = c then (match tyD d with
    | some _ => notF (φ [a, b] g)
    | none => match d with
      | .ins _ _ => notF (φ [a, b] g)
      | _ => .bad) else .bad
  | _, _ => .bad
theorem opd_neI {K : PySem.W.Frag} {c : Addr} {n : Nat} (hn : n = 2) : OpD K (rNeI K c (spD K n φ)) (neI c φ) := by
  intro μ F H g E x y a b Q rp sx sy p
  unfold neI at p
  split at p
  · rename_i C gs d e1 e2
    by_cases hC : C = c
    · rw [if_pos hC] at p
      obtain ⟨q, dx, fs, rfl, h1, h2, h3⟩ := snap_ins rp sx e1
      have hd := snap_ok rp sy e2
      have fin : ∀ {tb : Value}, TyX K H y tb → PySem.W.notFirst K c tb = true → Post (relS K) K μ F E (notF (φ [a, b] g)) Q → rNeI K c (spD K n φ) (.ref q) y H Q := fun {tb} ty nf p =>
        ⟨q, dx, fs, tb, rfl, by rw [← hC]; exact h1, ty, nf, μ, F, g, [a, b], rp, .cons sx (.cons sy .nil), by rw [hn]; rfl, notF_post p⟩
      cases e3 : tyD d with
      | some T => rw [e3] at p; exact fin (tyD_ok hd e3) (notFirst_t (tyD_seven e3)) p
      | none =>
        rw [e3] at p
        dsimp only at p
        cases d <;> first | exact False.elim p | skip
        obtain ⟨h4, h5⟩ := ins_ty hd
        exact fin h4 (notFirst_c h5) p
    · rw [if_neg hC] at p; exact p.elim
  · exact p.elim
def neX (c : Addr) (φ : DF) : S → S → G → R S := fun a b g => match snap g a with
  | some (.ins _ _) => neI c φ a b g
  | _ => opD neD a b g
def rNeX (K : PySem.W.Frag) (C : Addr) (sp : Sp) : R2 := fun x y H Q => rNeD K x y H Q ∨ rNeI K C sp x y H Q
theorem opd_neX {K : PySem.W.Frag} {c : Addr} {n : Nat} (hn : n = 2) : OpD K (rNeX K c (spD K n φ)) (neX c φ) := by
  intro μ F H g E x y a b Q rp sx sy p
  unfold neX at p
  split at p
  · exact .inr (opd_neI hn μ F H g E x y a b Q rp sx sy p)
  · exact .inl (opd_ne μ F H g E x y a b Q rp sx sy p)
theorem op_neX {c : Addr} (Fo : FnD X.prog X.w X.K X.mg X.base k fA fd ps φ) (hs : PySem.W.findIn X.K (.ref c) "__eq__" = some (some (.ref fA))) (hf : PySem.W.isFn X.K (.ref fA) = true) (no : PySem.W.findIn X.K (.ref c) "__ne__" = some (some (.builtin "object.__ne__"))) (kc : KC X.K c) (hb : Binds X.K fd ps []) (hr : Room (k + 1) X.A) : OpR X (compareOp .NotEq) (rNeX X.K c (spD X.K ps.length φ)) :=
  opr_or (op_neD hr.units) (op_neI Fo hs hf no kc hb hr)
end
end DL
/-! DLZ: zip of two and of three rows, each a list or a tuple. -/
namespace DL
open PySem PySem.Spec PyProof.Rows L2
/-- k: a tuple, else a list -/
def Sq (k : Bool) (K : PySem.W.Frag) (H : Hp) (a : Addr) (xs : List V) : Prop := match k with
  | true => SqT K H a xs
  | false => SqL K H a xs
def ItAt (k : Bool) (h : Heap) (it a : Addr) (i : Nat) : Prop := match k with
  | true => h.IsTupleIter it a i
  | false => h.IsListIter it a i
def HasI (k : Bool) (h : Heap) (a : Addr) (its : Array Value) : Prop := match k with
  | true => h.IsTuple a its
  | false => h.IsList a its
def objI (k : Bool) (a : Addr) : Obj := match k with
  | true => { cls := .type "tuple_iterator", data := .fields #[.ref a, .int 0 0] }
  | false => { cls := .type "list_iterator", data := .fields #[.ref a, .int 0 0] }
theorem begins_k (k : Bool) (a : Addr) (its : Array Value) : Begins (.ref a) (objI k a) fun h => HasI k h a its := match k with
  | true => begins_tuple a its
  | false => begins_list a its
theorem draws_k {prog : Program} {w : World} {A : Around} (k : Bool) (hh : A.handled = none) (it a : Addr) (ne : a ≠ it) (its : Array Value) :
    Draws prog w A it [it, a] its.size (fun i v => its[i]? = some v) (fun i h => ItAt k h it a i ∧ HasI k h a its) := match k with
  | true => Draws.tuple hh it a ne its
  | false => Draws.list hh it a ne its
theorem itAt_0 (k : Bool) {h : Heap} {it a : Addr} (e : h.get? it = some (objI k a)) : ItAt k h it a 0 := match k, e with
  | true, e => ⟨_, e, rfl, rfl⟩
  | false, e => ⟨_, e, rfl, rfl⟩
theorem ItAt.obj {k : Bool} {h : Heap} {it a : Addr} {i : Nat} (x : ItAt k h it a i) : ∃ o, h.get? it = some o ∧ ∀ v, o.data ≠ .cell v := match k, x with
  | true, ⟨o, e, _, d⟩ => ⟨o, e, fun v z => by rw [d] at z; cases z⟩
  | false, ⟨o, e, _, d⟩ => ⟨o, e, fun v z => by rw [d] at z; cases z⟩
theorem ItAt.keep {k : Bool} {h h' : Heap} {it a : Addr} {i : Nat} (x : ItAt k h it a i) (e : ∀ o, h.get? it = some o → h'.get? it = some o) : ItAt k h' it a i := match k, x with
  | true, x => Heap.IsTupleIter.at x e
  | false, x => Heap.IsListIter.at x e
theorem sq_items {X : Cx} {pins : List (Addr × Obj)} {σ : L2.St} {H : Hp} {s : Shared} {k : Bool} {a : Addr} {xs : List V} (I : Inv X pins σ H s) (q : Sq k X.K H a xs) : ∃ its : List Value, Vals xs its ∧ HasI k s.heap a its.toArray ∧ a < s.heap.objs.size := by
  cases k with
  | true =>
    obtain ⟨its, rv, p, _⟩ := I.tuple q
    have p' : s.heap.IsTuple a its.toArray := p
    obtain ⟨o, ho, _⟩ := id p'
    exact ⟨its, rv, p', Heap.lt_size ho⟩
  | false =>
    obtain ⟨its, rv, p, _⟩ := I.list q
    exact ⟨its, rv, p.isList, p.lt⟩
theorem sq_inj {X : Cx} {pins : List (Addr × Obj)} {σ : L2.St} {H : Hp} {s : Shared} {k : Bool} {a : Addr} {xs ys : List V} (I : Inv X pins σ H s) (q : Sq k X.K H a xs) (r : Sq k X.K H a ys) : xs = ys := by
  cases k with
  | true => exact I.tuple_inj q r
  | false => exact I.list_inj q r
theorem apart_it {k : Bool} {h : Heap} {it a : Addr} {i : Nat} {its : Array Value} (x : ItAt k h it a i) (y : HasI k h a its) : a ≠ it := fun z => by
  cases k with
  | true =>
    obtain ⟨o1, e1, c1, _⟩ := x
    obtain ⟨o2, e2, c2, _⟩ := y
    rw [z, e1] at e2
    cases e2
    exact absurd (Value.type.inj (c1.symm.trans c2)) (by decide)
  | false =>
    obtain ⟨o1, e1, c1, _⟩ := x
    obtain ⟨o2, e2, c2, _⟩ := y
    rw [z, e1] at e2
    cases e2
    exact absurd (Value.type.inj (c1.symm.trans c2)) (by decide)
def Itz2 (k1 k2 : Bool) (K : PySem.W.Frag) (a b : Addr) : It :=
  ⟨fun i H => ∃ (xs ys : List V) (x y : V), Sq k1 K H a xs ∧ Sq k2 K H b ys ∧ xs[i]? = some x ∧ ys[i]? = some y,
    fun i H v H' => ∃ T x y, v = .ref T ∧ H T = none ∧ H' = upd H T (.tup [x, y]) ∧ (∀ xs, Sq k1 K H a xs → xs[i]? = some x) ∧ ∀ ys, Sq k2 K H b ys → ys[i]? = some y,
    fun i H => ∃ xs ys : List V, Sq k1 K H a xs ∧ Sq k2 K H b ys ∧ i ≤ xs.length ∧ i ≤ ys.length ∧ (i = xs.length ∨ i = ys.length)⟩
theorem val_at {xs : List V} {its : List Value} {i : Nat} {x : V} {u : Value} (rv : Vals xs its) (hx : xs[i]? = some x) (hu : its.toArray[i]? = some u) : RelV x u := by
  obtain ⟨u', hu', ru⟩ := rv.get hx
  have e : its[i]? = some u := by simpa using hu
  rw [hu'] at e
  cases e
  exact ru
theorem turn_zip2 {P : Program} {w : World} {K : PySem.W.Frag} {elts : List Expr} {kk : Nat} {tpos : Pos} {k1 k2 : Bool} {a b z TI TO i1 i2 : Addr} (S : ZipSep2 z TI TO i1 i2 [i1, a] [i2, b]) :
    Turn P w K (.Tuple elts kk tpos) (Itz2 k1 k2 K a b) [z, TI, TO, i1, i2] z (fun i h => IsZip h z TI TO .none ∧ IsTupOf2 h TI (.ref i1) (.ref i2) ∧ (∃ x y, IsTupOf2 h TO x y) ∧ ItAt k1 h i1 a i ∧ ItAt k2 h i2 b i) where
  mem := by simp
  obj := fun i h st c hc => by
    obtain ⟨hz, hTI, ⟨x, y, hTO⟩, q1, q2⟩ := st
    have e' : c = z ∨ c = TI ∨ c = TO ∨ c = i1 ∨ c = i2 := by simpa using hc
    rcases e' with q | q | q | q | q
    · rw [q]; exact ⟨_, hz, fun v q => nomatch q⟩
    · rw [q]; exact ⟨_, hTI, fun v q => nomatch q⟩
    · rw [q]; exact ⟨_, hTO, fun v q => nomatch q⟩
    · rw [q]; exact q1.obj
    · rw [q]; exact q2.obj
  keep := fun i h h' st k => by
    obtain ⟨hz, hTI, ⟨x, y, hTO⟩, q1, q2⟩ := st
    exact ⟨k z (by simp) _ hz, k TI (by simp) _ hTI, ⟨x, y, k TO (by simp) _ hTO⟩, q1.keep fun o q => k i1 (by simp) o q, q2.keep fun o q => k i2 (by simp) o q⟩
  item := by
    intro X eP ew eK hc i pins s σ H E I hf st hg
    subst eP ew eK
    obtain ⟨hz, hTI, ⟨x0, y0, hTO⟩, q1, q2⟩ := st
    obtain ⟨xs, ys, x, y, sx, sy, hx, hy⟩ := hg
    obtain ⟨us, rx, px, _⟩ := sq_items I sx
    obtain ⟨ws, ry, py, _⟩ := sq_items I sy
    have lx : i < us.toArray.size := by
      rw [List.size_toArray, ← rx.length]; exact (List.getElem?_eq_some_iff.mp hx).1
    have ly : i < ws.toArray.size := by
      rw [List.size_toArray, ← ry.length]; exact (List.getElem?_eq_some_iff.mp hy).1
    have zl : z < s.heap.objs.size := Heap.lt_size hz
    refine wpAny_pyNext_zipD2_item S (draws_k (prog := X.prog) (w := X.w) (A := X.A.in1) k1 (I.ok.hd hc) i1 a (apart_it q1 px) us.toArray) (draws_k (prog := X.prog) (w := X.w) (A := X.A.in1) k2 (I.ok.hd hc) i2 b (apart_it q2 py) ws.toArray) hz hTI hTO ⟨q1, px⟩ ⟨q2, py⟩ lx ly fun u v h1 tk gu gv z1 TO1 r1 r2 pair _ old => ?_
    refine ⟨_, rfl, wpAny_letOwnedTupleGo_zip (s := { s with heap := h1, toks := tk }) z1 fun h2 z2 sb => ?_⟩
    have pair2 : h2.get? s.heap.objs.size = some { cls := .type "tuple", data := .seq #[u, v] } := (sb.2 _ (Nat.ne_of_gt zl)).trans pair
    have laid : ObjOk X.prog X.w (upd H s.heap.objs.size (.tup [x, y])) h2 s.heap.objs.size (.tup [x, y]) :=
      ⟨by show 2 ≤ sizeLine; decide, [u, v], .cons (val_at rx hx gu) (.cons (val_at ry hy gv) .nil), ⟨_, pair2, rfl, _, rfl⟩⟩
    have J : Inv X pins σ (upd H s.heap.objs.size (.tup [x, y])) { s with heap := h2, toks := tk } :=
      I.turnedNew (ch := [z, TI, TO, i1, i2]) (fun c o hb q => (sb.2 c (fun q' => hb (by simp [q']))).trans (old c o (fun q' => hb (by simp [q'])) (fun q' => hb (by simp [q'])) (fun q' => hb (by simp [q'])) (fun q' => hb (by simp [q'])) q)) hf (Nat.le_refl _) laid
    have keepI : ∀ {k : Bool} {it c : Addr} {j : Nat}, z ≠ it → ItAt k h1 it c j → ItAt k h2 it c j := fun ne y => y.keep fun o q => (sb.2 _ (Ne.symm ne)).trans q
    refine ⟨.ref s.heap.objs.size, _, J, rfl, ⟨_, x, y, rfl, I.hok.fresh (Nat.le_refl _), rfl, fun l hl => by rw [sq_inj I hl sx]; exact hx, fun l hl => by rw [sq_inj I hl sy]; exact hy⟩, ⟨z2, ?_, ⟨u, v, ?_⟩, keepI S.zi1 r1.1, keepI S.zi2 r2.1⟩, fun c hcm => ?_⟩
    · exact (sb.2 _ S.TIz).trans (old _ _ S.TIz S.TITO S.TIi1 S.TIi2 hTI)
    · exact (sb.2 _ S.TOz).trans TO1
    · have lt : c < s.heap.objs.size := by
        have e' : c = z ∨ c = TI ∨ c = TO ∨ c = i1 ∨ c = i2 := by simpa using hcm
        rcases e' with q | q | q | q | q
        · rw [q]; exact zl
        · rw [q]; exact Heap.lt_size hTI
        · rw [q]; exact Heap.lt_size hTO
        · rw [q]; obtain ⟨_, e1, _⟩ := q1.obj; exact Heap.lt_size e1
        · rw [q]; obtain ⟨_, e2, _⟩ := q2.obj; exact Heap.lt_size e2
      rw [upd_ne (Nat.ne_of_lt lt)]
      exact (hf c hcm).1
  done := by
    intro X eP ew eK hc i pins s σ H E I hf st hg
    subst eP ew eK
    obtain ⟨hz, hTI, ⟨x0, y0, hTO⟩, q1, q2⟩ := st
    obtain ⟨xs, ys, sx, sy, l1, l2, fin⟩ := hg
    obtain ⟨us, rx, px, _⟩ := sq_items I sx
    obtain ⟨ws, ry, py, _⟩ := sq_items I sy
    have ex : us.toArray.size = xs.length := by rw [List.size_toArray, ← rx.length]
    have ey : ws.toArray.size = ys.length := by rw [List.size_toArray, ← ry.length]
    exact wpAny_pyNext_zipD2_end S (draws_k (prog := X.prog) (w := X.w) (A := X.A.in1) k1 (I.ok.hd hc) i1 a (apart_it q1 px) us.toArray) (draws_k (prog := X.prog) (w := X.w) (A := X.A.in1) k2 (I.ok.hd hc) i2 b (apart_it q2 py) ws.toArray) hz hTI hTO ⟨q1, px⟩ ⟨q2, py⟩ (by omega) (by omega) (by omega) fun h1 tk old =>
      ⟨rfl, I.turnedL (t' := tk) (ch := [z, TI, TO, i1, i2]) (fun c o hb q => old c o (fun q' => hb (by simp [q'])) (fun q' => hb (by simp [q'])) (fun q' => hb (by simp [q'])) (fun q' => hb (by simp [q'])) q) hf⟩
  self := fun A i s Q E st h => wpAny_pyIter_zip st.1 h
def Itz3 (k1 k2 k3 : Bool) (K : PySem.W.Frag) (a b c : Addr) : It :=
  ⟨fun i H => ∃ (xs ys zs : List V) (x y z : V), Sq k1 K H a xs ∧ Sq k2 K H b ys ∧ Sq k3 K H c zs ∧ xs[i]? = some x ∧ ys[i]? = some y ∧ zs[i]? = some z,
    fun i H v H' => ∃ T x y z, v = .ref T ∧ H T = none ∧ H' = upd H T (.tup [x, y, z]) ∧ (∀ xs, Sq k1 K H a xs → xs[i]? = some x) ∧ (∀ ys, Sq k2 K H b ys → ys[i]? = some y) ∧ ∀ zs, Sq k3 K H c zs → zs[i]? = some z,
    fun i H => ∃ xs ys zs : List V, Sq k1 K H a xs ∧ Sq k2 K H b ys ∧ Sq k3 K H c zs ∧ i ≤ xs.length ∧ i ≤ ys.length ∧ i ≤ zs.length ∧ (i = xs.length ∨ i = ys.length ∨ i = zs.length)⟩
theorem turn_zip3 {P : Program} {w : World} {K : PySem.W.Frag} {elts : List Expr} {kk : Nat} {tpos : Pos} {k1 k2 k3 : Bool} {a b c z TI TO i1 i2 i3 : Addr} (S : ZipSep3 z TI TO i1 i2 i3 [i1, a] [i2, b] [i3, c]) :
    Turn P w K (.Tuple elts kk tpos) (Itz3 k1 k2 k3 K a b c) [z, TI, TO, i1, i2, i3] z (fun i h => IsZip h z TI TO .none ∧ IsTupOf3 h TI (.ref i1) (.ref i2) (.ref i3) ∧ (∃ x y u, IsTupOf3 h TO x y u) ∧ ItAt k1 h i1 a i ∧ ItAt k2 h i2 b i ∧ ItAt k3 h i3 c i) where
  mem := by simp
  obj := fun i h st e he => by
    obtain ⟨hz, hTI, ⟨x, y, u, hTO⟩, q1, q2, q3⟩ := st
    have e' : e = z ∨ e = TI ∨ e = TO ∨ e = i1 ∨ e = i2 ∨ e = i3 := by simpa using he
    rcases e' with q | q | q | q | q | q
    · rw [q]; exact ⟨_, hz, fun v q => nomatch q⟩
    · rw [q]; exact ⟨_, hTI, fun v q => nomatch q⟩
    · rw [q]; exact ⟨_, hTO, fun v q => nomatch q⟩
    · rw [q]; exact q1.obj
    · rw [q]; exact q2.obj
    · rw [q]; exact q3.obj
  keep := fun i h h' st k => by
    obtain ⟨hz, hTI, ⟨x, y, u, hTO⟩, q1, q2, q3⟩ := st
    exact ⟨k z (by simp) _ hz, k TI (by simp) _ hTI, ⟨x, y, u, k TO (by simp) _ hTO⟩, q1.keep fun o q => k i1 (by simp) o q, q2.keep fun o q => k i2 (by simp) o q, q3.keep fun o q => k i3 (by simp) o q⟩
  item := by
    intro X eP ew eK hc i pins s σ H E I hf st hg
    subst eP ew eK
    obtain ⟨hz, hTI, ⟨x0, y0, u0, hTO⟩, q1, q2, q3⟩ := st
    obtain ⟨xs, ys, zs, x, y, t, sx, sy, sz, hx, hy, ht⟩ := hg
    obtain ⟨us, rx, px, _⟩ := sq_items I sx
    obtain ⟨ws, ry, py, _⟩ := sq_items I sy
    obtain ⟨os, rz, pz, _⟩ := sq_items I sz
    have lx : i < us.toArray.size := by
      rw [List.size_toArray, ← rx.length]; exact (List.getElem?_eq_some_iff.mp hx).1
    have ly : i < ws.toArray.size := by
      rw [List.size_toArray, ← ry.length]; exact (List.getElem?_eq_some_iff.mp hy).1
    have lz : i < os.toArray.size := by
      rw [List.size_toArray, ← rz.length]; exact (List.getElem?_eq_some_iff.mp ht).1
    have zl : z < s.heap.objs.size := Heap.lt_size hz
    refine wpAny_pyNext_zipD3_item S (draws_k (prog := X.prog) (w := X.w) (A := X.A.in1) k1 (I.ok.hd hc) i1 a (apart_it q1 px) us.toArray) (draws_k (prog := X.prog) (w := X.w) (A := X.A.in1) k2 (I.ok.hd hc) i2 b (apart_it q2 py) ws.toArray) (draws_k (prog := X.prog) (w := X.w) (A := X.A.in1) k3 (I.ok.hd hc) i3 c (apart_it q3 pz) os.toArray) hz hTI hTO ⟨q1, px⟩ ⟨q2, py⟩ ⟨q3, pz⟩ lx ly lz fun u v m h1 tk gu gv gm z1 TO1 r1 r2 r3 trip _ old => ?_
    refine ⟨_, rfl, wpAny_letOwnedTupleGo_zip (s := { s with heap := h1, toks := tk }) z1 fun h2 z2 sb => ?_⟩
    have trip2 : h2.get? s.heap.objs.size = some { cls := .type "tuple", data := .seq #[u, v, m] } := (sb.2 _ (Nat.ne_of_gt zl)).trans trip
    have laid : ObjOk X.prog X.w (upd H s.heap.objs.size (.tup [x, y, t])) h2 s.heap.objs.size (.tup [x, y, t]) :=
      ⟨by show 3 ≤ sizeLine; decide, [u, v, m], .cons (val_at rx hx gu) (.cons (val_at ry hy gv) (.cons (val_at rz ht gm) .nil)), ⟨_, trip2, rfl, _, rfl⟩⟩
    have J : Inv X pins σ (upd H s.heap.objs.size (.tup [x, y, t])) { s with heap := h2, toks := tk } :=
      I.turnedNew (ch := [z, TI, TO, i1, i2, i3]) (fun e o hb q => (sb.2 e (fun q' => hb (by simp [q']))).trans (old e o (fun q' => hb (by simp [q'])) (fun q' => hb (by simp [q'])) (fun q' => hb (by simp [q'])) (fun q' => hb (by simp [q'])) (fun q' => hb (by simp [q'])) q)) hf (Nat.le_refl _) laid
    have keepI : ∀ {k : Bool} {it e : Addr} {j : Nat}, z ≠ it → ItAt k h1 it e j → ItAt k h2 it e j := fun ne y => y.keep fun o q => (sb.2 _ (Ne.symm ne)).trans q
    refine ⟨.ref s.heap.objs.size, _, J, rfl, ⟨_, x, y, t, rfl, I.hok.fresh (Nat.le_refl _), rfl, fun l hl => by rw [sq_inj I hl sx]; exact hx, fun l hl => by rw [sq_inj I hl sy]; exact hy, fun l hl => by rw [sq_inj I hl sz]; exact ht⟩, ⟨z2, ?_, ⟨u, v, m, ?_⟩, keepI S.zi1 r1.1, keepI S.zi2 r2.1, keepI S.zi3 r3.1⟩, fun e hcm => ?_⟩
    · exact (sb.2 _ S.TIz).trans (old _ _ S.TIz S.TITO S.TIi1 S.TIi2 S.TIi3 hTI)
    · exact (sb.2 _ S.TOz).trans TO1
    · have lt : e < s.heap.objs.size := by
        have e' : e = z ∨ e = TI ∨ e = TO ∨ e = i1 ∨ e = i2 ∨ e = i3 := by simpa using hcm
        rcases e' with q | q | q | q | q | q
        · rw [q]; exact zl
        · rw [q]; exact Heap.lt_size hTI
        · rw [q]; exact Heap.lt_size hTO
        · rw [q]; obtain ⟨_, e1, _⟩ := q1.obj; exact Heap.lt_size e1
        · rw [q]; obtain ⟨_, e2, _⟩ := q2.obj; exact Heap.lt_size e2
        · rw [q]; obtain ⟨_, e3, _⟩ := q3.obj; exact Heap.lt_size e3
      rw [upd_ne (Nat.ne_of_lt lt)]
      exact (hf e hcm).1
  done := by
    intro X eP ew eK hc i pins s σ H E I hf st hg
    subst eP ew eK
    obtain ⟨hz, hTI, ⟨x0, y0, u0, hTO⟩, q1, q2, q3⟩ := st
    obtain ⟨xs, ys, zs, sx, sy, sz, l1, l2, l3, fin⟩ := hg
    obtain ⟨us, rx, px, _⟩ := sq_items I sx
    obtain ⟨ws, ry, py, _⟩ := sq_items I sy
    obtain ⟨os, rz, pz, _⟩ := sq_items I sz
    have ex : us.toArray.size = xs.length := by rw [List.size_toArray, ← rx.length]
    have ey : ws.toArray.size = ys.length := by rw [List.size_toArray, ← ry.length]
    have ez : os.toArray.size = zs.length := by rw [List.size_toArray, ← rz.length]
    exact wpAny_pyNext_zipD3_end S (draws_k (prog := X.prog) (w := X.w) (A := X.A.in1) k1 (I.ok.hd hc) i1 a (apart_it q1 px) us.toArray) (draws_k (prog := X.prog) (w := X.w) (A := X.A.in1) k2 (I.ok.hd hc) i2 b (apart_it q2 py) ws.toArray) (draws_k (prog := X.prog) (w := X.w) (A := X.A.in1) k3 (I.ok.hd hc) i3 c (apart_it q3 pz) os.toArray) hz hTI hTO ⟨q1, px⟩ ⟨q2, py⟩ ⟨q3, pz⟩ (by omega) (by omega) (by omega) (by omega) fun h1 tk old =>
      ⟨rfl, I.turnedL (t' := tk) (ch := [z, TI, TO, i1, i2, i3]) (fun e o hb q => old e o (fun q' => hb (by simp [q'])) (fun q' => hb (by simp [q'])) (fun q' => hb (by simp [q'])) (fun q' => hb (by simp [q'])) (fun q' => hb (by simp [q'])) q) hf⟩
  self := fun A i s Q E st h => wpAny_pyIter_zip st.1 h
theorem objI_free (k : Bool) (a : Addr) : (objI k a).isFreed = false := match k with
  | true => rfl
  | false => rfl
def iZip2 (K : PySem.W.Frag) (ta : TA) : TI := fun σ H R => ta σ H fun vs H1 => ∃ k1 k2 a b xs ys, vs = [.ref a, .ref b] ∧ Sq k1 K H1 a xs ∧ Sq k2 K H1 b ys ∧ R (Itz2 k1 k2 K a b) H1
def iZip3 (K : PySem.W.Frag) (ta : TA) : TI := fun σ H R => ta σ H fun vs H1 => ∃ k1 k2 k3 a b c xs ys zs, vs = [.ref a, .ref b, .ref c] ∧ Sq k1 K H1 a xs ∧ Sq k2 K H1 b ys ∧ Sq k3 K H1 c zs ∧ R (Itz3 k1 k2 k3 K a b c) H1
theorem fresh_from {X : Cx} {pins : List (Addr × Obj)} {σ : L2.St} {H : Hp} {s : Shared} (I : Inv X pins σ H s) {c n : Nat} (h : c = s.heap.objs.size + n) : FpOk X pins H c := by
  have le : s.heap.objs.size ≤ c := by omega
  exact I.fpOk le (I.hok.fresh le)
theorem pi_zip2 {X : Cx} {e e2 : Expr} {ta : TA} {p pos tpos : Pos} {elts : List Expr} {kk : Nat} (hg : Gl X "zip") (hm : X.mg "zip" = none) (ha : PA X [e, e2] ta)
    (hs : starEach [e, e2] X.env = (false, eval e X.env) :: starEach [e2] X.env := by rfl) (hpl : (backTo pos (starEach [e2] X.env)).any (·.1) = false := by rfl) :
    PI X (.Tuple elts kk tpos) (.Call (.Name "zip" p) [e, e2] [] pos) (iZip2 X.K ta) := by
  refine ⟨fun pins s σ H R I h => Call_ (ld_blt I hg hm PyProof.Rows.boot_zip (PyProof.Rows.callWith_type1 (thn (ha.run pos pins s σ H _ I h) fun us s1 ⟨vs, H1, I1, r1, k1, k2, a, b, xs, ys, ev, sx, sy, q⟩ => ?_) hs hpl))⟩
  subst ev
  cases r1 with
  | cons r rr =>
  cases rr with
  | cons r' rr =>
  cases rr
  cases r
  cases r'
  obtain ⟨us, rx, px, lx⟩ := sq_items I1 sx
  obtain ⟨ws, ry, py, ly⟩ := sq_items I1 sy
  refine zip_begins2 (begins_k k1 a us.toArray) (begins_k k2 b ws.toArray) px py fun h' hz hTI hTO e1 e2 _ hk => wpAny_pyIter_zip hz ?_
  refine ⟨s1.heap.objs.size + 4, [s1.heap.objs.size + 4, s1.heap.objs.size + 2, s1.heap.objs.size + 3, s1.heap.objs.size, s1.heap.objs.size + 1], _, _, H1, rfl, I1.kept (t' := s1.toks) hk,
    turn_zip2 (zip_sep2 (N := s1.heap.objs.size) (fp1 := [a]) (fp2 := [b]) (by simpa using lx) (by simpa using ly)), ⟨hz, hTI, ⟨_, _, hTO⟩, itAt_0 k1 e1, itAt_0 k2 e2⟩, fun c hc => ?_, q⟩
  have e' : c = s1.heap.objs.size + 4 ∨ c = s1.heap.objs.size + 2 ∨ c = s1.heap.objs.size + 3 ∨ c = s1.heap.objs.size + 0 ∨ c = s1.heap.objs.size + 1 := by simpa using hc
  rcases e' with z | z | z | z | z <;> exact fresh_from I1 z
theorem pi_zip3 {X : Cx} {e e2 e3 : Expr} {ta : TA} {p pos tpos : Pos} {elts : List Expr} {kk : Nat} (hg : Gl X "zip") (hm : X.mg "zip" = none) (ha : PA X [e, e2, e3] ta)
    (hs : starEach [e, e2, e3] X.env = (false, eval e X.env) :: starEach [e2, e3] X.env := by rfl) (hpl : (backTo pos (starEach [e2, e3] X.env)).any (·.1) = false := by rfl) :
    PI X (.Tuple elts kk tpos) (.Call (.Name "zip" p) [e, e2, e3] [] pos) (iZip3 X.K ta) := by
  refine ⟨fun pins s σ H R I h => Call_ (ld_blt I hg hm PyProof.Rows.boot_zip (PyProof.Rows.callWith_type1 (thn (ha.run pos pins s σ H _ I h) fun us s1 ⟨vs, H1, I1, r1, k1, k2, k3, a, b, c, xs, ys, zs, ev, sx, sy, sz, q⟩ => ?_) hs hpl))⟩
  subst ev
  cases r1 with
  | cons r rr =>
  cases rr with
  | cons r' rr =>
  cases rr with
  | cons r2 rr =>
  cases rr
  cases r
  cases r'
  cases r2
  obtain ⟨us, rx, px, lx⟩ := sq_items I1 sx
  obtain ⟨ws, ry, py, ly⟩ := sq_items I1 sy
  obtain ⟨os, rz, pz, lz⟩ := sq_items I1 sz
  refine zip_begins3 (begins_k k1 a us.toArray) (begins_k k2 b ws.toArray) (begins_k k3 c os.toArray) px py pz fun h' hz hTI hTO e1 e2 e3 _ hk => wpAny_pyIter_zip hz ?_
  refine ⟨s1.heap.objs.size + 5, [s1.heap.objs.size + 5, s1.heap.objs.size + 3, s1.heap.objs.size + 4, s1.heap.objs.size, s1.heap.objs.size + 1, s1.heap.objs.size + 2], _, _, H1, rfl, I1.kept (t' := s1.toks) hk,
    turn_zip3 (zip_sep3 (N := s1.heap.objs.size) (fp1 := [a]) (fp2 := [b]) (fp3 := [c]) (by simpa using lx) (by simpa using ly) (by simpa using lz)), ⟨hz, hTI, ⟨_, _, _, hTO⟩, itAt_0 k1 e1, itAt_0 k2 e2, itAt_0 k3 e3⟩, fun d hc => ?_, q⟩
  have e' : d = s1.heap.objs.size + 5 ∨ d = s1.heap.objs.size + 3 ∨ d = s1.heap.objs.size + 4 ∨ d = s1.heap.objs.size + 0 ∨ d = s1.heap.objs.size + 1 ∨ d = s1.heap.objs.size + 2 := by simpa using hc
  rcases e' with z | z | z | z | z | z <;> exact fresh_from I1 z
/-! ### on data -/
def zip2D : List D → List D → List D
  | x :: xs, y :: ys => .tup [x, y] :: zip2D xs ys
  | _, _ => []
def zip3D : List D → List D → List D → List D
  | x :: xs, y :: ys, z :: zs => .tup [x, y, z] :: zip3D xs ys zs
  | _, _, _ => []
theorem zip2D_len : ∀ (xs ys : List D), (zip2D xs ys).length = min xs.length ys.length
  | [], ys => by simp [zip2D]
  | x :: xs, [] => by simp [zip2D]
  | x :: xs, y :: ys => by simp [zip2D, zip2D_len xs ys]
theorem zip3D_len : ∀ (xs ys zs : List D), (zip3D xs ys zs).length = min (min xs.length ys.length) zs.length
  | [], ys, zs => by simp [zip3D]
  | x :: xs, [], zs => by simp [zip3D]
  | x :: xs, y :: ys, [] => by simp [zip3D]
  | x :: xs, y :: ys, z :: zs => by simp [zip3D, zip3D_len xs ys zs]
theorem zip2D_get : ∀ (xs ys : List D) (i : Nat) (d : D), (zip2D xs ys)[i]? = some d → ∃ x y, xs[i]? = some x ∧ ys[i]? = some y ∧ d = .tup [x, y]
  | [], ys, i, d, h => by simp [zip2D] at h
  | x :: xs, [], i, d, h => by simp [zip2D] at h
  | x :: xs, y :: ys, 0, d, h => by simp [zip2D] at h; exact ⟨x, y, rfl, rfl, h.symm⟩
  | x :: xs, y :: ys, i + 1, d, h => by
    rw [zip2D, List.getElem?_cons_succ] at h
    exact zip2D_get xs ys i d h
theorem zip3D_get : ∀ (xs ys zs : List D) (i : Nat) (d : D), (zip3D xs ys zs)[i]? = some d → ∃ x y z, xs[i]? = some x ∧ ys[i]? = some y ∧ zs[i]? = some z ∧ d = .tup [x, y, z]
  | [], ys, zs, i, d, h => by simp [zip3D] at h
  | x :: xs, [], zs, i, d, h => by simp [zip3D] at h
  | x :: xs, y :: ys, [], i, d, h => by simp [zip3D] at h
  | x :: xs, y :: ys, z :: zs, 0, d, h => by simp [zip3D] at h; exact ⟨x, y, z, rfl, rfl, rfl, h.symm⟩
  | x :: xs, y :: ys, z :: zs, i + 1, d, h => by
    rw [zip3D, List.getElem?_cons_succ] at h
    exact zip3D_get xs ys zs i d h
theorem sq_ex {k : Bool} {K : PySem.W.Frag} {F H : Hp} {a : Addr} {xs : List V} (e : Ex F H) (q : Sq k K F a xs) : Sq k K H a xs := match k, q with
  | true, q => ex_t e q
  | false, q => ex_l e q
/-- a row of data, where it lies -/
theorem row_of {K : PySem.W.Frag} {F : Hp} {v : V} {d : D} {ds : List D} (h : Dn K F v d) (e : itemsD d = some ds) : ∃ k a xs, v = .ref a ∧ Sq k K F a xs ∧ DnL K F xs ds := by
  obtain ⟨a, xs, rfl, q, hd⟩ := dn_at h e
  rcases q with q | q
  · exact ⟨false, a, xs, rfl, q, hd⟩
  · exact ⟨true, a, xs, rfl, q, hd⟩
theorem walk_z2 {K : PySem.W.Frag} {F : Hp} {k1 k2 : Bool} {a b : Addr} {xs ys : List V} {ds es : List D} (qa : Sq k1 K F a xs) (qb : Sq k2 K F b ys) (ha : DnL K F xs ds) (hb : DnL K F ys es) : WalkD K F (Itz2 k1 k2 K a b) (zip2D ds es) where
  go := fun i H e hi => by
    rw [zip2D_len] at hi
    have l1 := ha.length
    have l2 := hb.length
    exact ⟨xs, ys, xs[i]'(by omega), ys[i]'(by omega), sq_ex e qa, sq_ex e qb, List.getElem?_eq_getElem _, List.getElem?_eq_getElem _⟩
  stop := fun i H e hi => by
    rw [zip2D_len] at hi
    have l1 := ha.length
    have l2 := hb.length
    exact ⟨xs, ys, sq_ex e qa, sq_ex e qb, by omega, by omega, by omega⟩
  yld := fun i H v H' d μ F1 g e r y hi => by
    obtain ⟨T, x, y, rfl, hT, rfl, fx, fy⟩ := y
    obtain ⟨dx, dy, h1, h2, rfl⟩ := zip2D_get ds es i d hi
    obtain ⟨x', hx, rx⟩ := ha.get h1
    obtain ⟨y', hy, ry⟩ := hb.get h2
    have ex := fx xs (sq_ex (ex_trans e r.ex) qa)
    have ey := fy ys (sq_ex (ex_trans e r.ex) qb)
    rw [hx] at ex; cases ex
    rw [hy] at ey; cases ey
    have ee : Ex F1 (upd F1 T (.tup [x, y])) := (Ext.new (μ := μ) (r.fresh hT)).f
    exact ⟨_, Ext.new (r.fresh hT), r.new hT, .tup (SqT.of upd_same) (.cons ((rx.mono e).mono ee) (.cons ((ry.mono e).mono ee) .nil))⟩
theorem walk_z3 {K : PySem.W.Frag} {F : Hp} {k1 k2 k3 : Bool} {a b c : Addr} {xs ys zs : List V} {ds es fs : List D} (qa : Sq k1 K F a xs) (qb : Sq k2 K F b ys) (qc : Sq k3 K F c zs) (ha : DnL K F xs ds) (hb : DnL K F ys es) (hc : DnL K F zs fs) : WalkD K F (Itz3 k1 k2 k3 K a b c) (zip3D ds es fs) where
  go := fun i H e hi => by
    rw [zip3D_len] at hi
    have l1 := ha.length
    have l2 := hb.length
    have l3 := hc.length
    exact ⟨xs, ys, zs, xs[i]'(by omega), ys[i]'(by omega), zs[i]'(by omega), sq_ex e qa, sq_ex e qb, sq_ex e qc, List.getElem?_eq_getElem _, List.getElem?_eq_getElem _, List.getElem?_eq_getElem _⟩
  stop := fun i H e hi => by
    rw [zip3D_len] at hi
    have l1 := ha.length
    have l2 := hb.length
    have l3 := hc.length
    exact ⟨xs, ys, zs, sq_ex e qa, sq_ex e qb, sq_ex e qc, by omega, by omega, by omega, by omega⟩
  yld := fun i H v H' d μ F1 g e r y hi => by
    obtain ⟨T, x, y, z, rfl, hT, rfl, fx, fy, fz⟩ := y
    obtain ⟨dx, dy, dz, h1, h2, h3, rfl⟩ := zip3D_get ds es fs i d hi
    obtain ⟨x', hx, rx⟩ := ha.get h1
    obtain ⟨y', hy, ry⟩ := hb.get h2
    obtain ⟨z', hz, rz⟩ := hc.get h3
    have ex := fx xs (sq_ex (ex_trans e r.ex) qa)
    have ey := fy ys (sq_ex (ex_trans e r.ex) qb)
    have ez := fz zs (sq_ex (ex_trans e r.ex) qc)
    rw [hx] at ex; cases ex
    rw [hy] at ey; cases ey
    rw [hz] at ez; cases ez
    have ee : Ex F1 (upd F1 T (.tup [x, y, z])) := (Ext.new (μ := μ) (r.fresh hT)).f
    exact ⟨_, Ext.new (r.fresh hT), r.new hT, .tup (SqT.of upd_same) (.cons ((rx.mono e).mono ee) (.cons ((ry.mono e).mono ee) (.cons ((rz.mono e).mono ee) .nil)))⟩
def zipI2 (fl : DE (List S)) : DE (List D) := fun ρ g => (fl ρ g).bind fun xs g1 => match xs with
  | [.d x, .d y] => match itemsD x, itemsD y with
    | some ds, some es => .ok (zip2D ds es) g1
    | _, _ => .bad
  | _ => .bad
def zipI3 (fl : DE (List S)) : DE (List D) := fun ρ g => (fl ρ g).bind fun xs g1 => match xs with
  | [.d x, .d y, .d z] => match itemsD x, itemsD y, itemsD z with
    | some ds, some es, some fs => .ok (zip3D ds es fs) g1
    | _, _, _ => .bad
  | _ => .bad
theorem id_zip2 {X : Cx} {W : WX} {a b : Expr} {fl : DE (List S)} {p pos tpos : Pos} {elts : List Expr} {kk : Nat} (hg : Gl X "zip") (hm : X.mg "zip" = none) (ha : LD X W [a, b] fl)
    (hs : starEach [a, b] X.env = (false, eval a X.env) :: starEach [b] X.env := by rfl) (hpl : (backTo pos (starEach [b] X.env)).any (·.1) = false := by rfl) :
    ID X W (.Tuple elts kk tpos) (.Call (.Name "zip" p) [a, b] [] pos) (zipI2 fl) := pi_weak (pi_zip2 hg hm ha hs hpl) fun σ H R ⟨μ, F, g, ρ, r, re, q⟩ => by
  refine ⟨μ, F, g, ρ, r, re, (Post.step (rel := relL X.K) q).imp fun vs H1 ⟨μ1, F1, ss, g1, x1, r1, sv, p1⟩ => ?_⟩
  split at p1
  · rename_i x y
    cases sv with
    | cons s1 t =>
    cases t with
    | cons s2 t =>
    cases t
    cases s1 with
    | d s1 =>
    cases s2 with
    | d s2 =>
    cases ex : itemsD x with
    | none => rw [ex] at p1; exact p1.elim
    | some ds =>
      cases ey : itemsD y with
      | none => rw [ex, ey] at p1; exact p1.elim
      | some es =>
        rw [ex, ey] at p1
        obtain ⟨k1, a, xs, rfl, qa, ha⟩ := row_of s1 ex
        obtain ⟨k2, b, ys, rfl, qb, hb⟩ := row_of s2 ey
        exact ⟨k1, k2, a, b, xs, ys, rfl, sq_ex r1.ex qa, sq_ex r1.ex qb, p1 μ1 F1 H1 _ (.refl _ _) r1 (walk_z2 qa qb ha hb)⟩
  · exact p1.elim
theorem id_zip3 {X : Cx} {W : WX} {a b c : Expr} {fl : DE (List S)} {p pos tpos : Pos} {elts : List Expr} {kk : Nat} (hg : Gl X "zip") (hm : X.mg "zip" = none) (ha : LD X W [a, b, c] fl)
    (hs : starEach [a, b, c] X.env = (false, eval a X.env) :: starEach [b, c] X.env := by rfl) (hpl : (backTo pos (starEach [b, c] X.env)).any (·.1) = false := by rfl) :
    ID X W (.Tuple elts kk tpos) (.Call (.Name "zip" p) [a, b, c] [] pos) (zipI3 fl) := pi_weak (pi_zip3 hg hm ha hs hpl) fun σ H R ⟨μ, F, g, ρ, r, re, q⟩ => by
  refine ⟨μ, F, g, ρ, r, re, (Post.step (rel := relL X.K) q).imp fun vs H1 ⟨μ1, F1, ss, g1, x1, r1, sv, p1⟩ => ?_⟩
  split at p1
  · rename_i x y z
    cases sv with
    | cons s1 t =>
    cases t with
    | cons s2 t =>
    cases t with
    | cons s3 t =>
    cases t
    cases s1 with
    | d s1 =>
    cases s2 with
    | d s2 =>
    cases s3 with
    | d s3 =>
    cases ex : itemsD x with
    | none => rw [ex] at p1; exact p1.elim
    | some ds =>
      cases ey : itemsD y with
      | none => rw [ex, ey] at p1; exact p1.elim
      | some es =>
        cases ez : itemsD z with
        | none => rw [ex, ey, ez] at p1; exact p1.elim
        | some fs =>
          rw [ex, ey, ez] at p1
          obtain ⟨k1, a, xs, rfl, qa, ha⟩ := row_of s1 ex
          obtain ⟨k2, b, ys, rfl, qb, hb⟩ := row_of s2 ey
          obtain ⟨k3, c, zs, rfl, qc, hc⟩ := row_of s3 ez
          exact ⟨k1, k2, k3, a, b, c, xs, ys, zs, rfl, sq_ex r1.ex qa, sq_ex r1.ex qb, sq_ex r1.ex qc, p1 μ1 F1 H1 _ (.refl _ _) r1 (walk_z3 qa qb qc ha hb hc)⟩
  · exact p1.elim
end DL
/-! DLV: x[::-1] of lists and tuples; name += e. -/
namespace DL
open PySem PySem.Spec PyProof.Rows L2
theorem rev_places (n : Nat) : Builtin.Slice.slicePlaces ((n : Int) - 1) (-1) (-1) = n := by
  unfold Builtin.Slice.slicePlaces
  have e : ¬ ((-1 : Int) > 0) := by omega
  simp only [e, if_false]
  by_cases h : (n : Int) - 1 > -1
  · rw [if_pos h, show (- -1 : Int) = 1 by decide, Int.ediv_one]; omega
  · rw [if_neg h]; omega
theorem fm_congr {α β : Type} {f g : α → Option β} : ∀ {l : List α}, (∀ a ∈ l, f a = g a) → l.filterMap f = l.filterMap g
  | [], _ => rfl
  | a :: l, h => by
    have e := fm_congr (l := l) fun b hb => h b (List.mem_cons_of_mem _ hb)
    rw [List.filterMap_cons, List.filterMap_cons, h a List.mem_cons_self, e]
theorem rev_pick (xs : Array Value) : ((List.range xs.size).filterMap fun (m : Nat) => xs[(((xs.size : Int) - 1) + (m : Int) * (-1)).toNat]?).toArray = xs.toList.reverse.toArray := by
  have e : (List.range xs.size).filterMap (fun (m : Nat) => xs[(((xs.size : Int) - 1) + (m : Int) * (-1)).toNat]?) = ((List.range xs.size).map fun m => xs.size - 1 - m).filterMap (xs[·]?) := by
    rw [List.filterMap_map]
    refine fm_congr fun m hm => ?_
    rw [List.mem_range] at hm
    have z : (((xs.size : Int) - 1) + (m : Int) * (-1)).toNat = xs.size - 1 - m := by omega
    rw [z]
    rfl
  rw [e, PySem.W.krv_range, List.filterMap_reverse, PySem.W.krv_all]
section
variable {prog : Program} {w : World} {A : Around} {E : Value → Shared → Prop} {s : Shared}
theorem slice_rev {sl : Addr} {vk : Value} {n : Nat} {Q : Int × Int × Nat → Shared → Prop} (cell : s.heap.IsSliceOf sl .none .none vk) (part : IsPart vk (some (-1))) (goal : Q ((n : Int) - 1, -1, n) s) :
    wpAny (model prog w) A (Builtin.Slice.sliceApplied (.ref sl) (pure (n : Int))) Q E s := by
  obtain ⟨o, ho, _, hd⟩ := id cell
  unfold Builtin.Slice.sliceApplied Builtin.Slice.sliceFields
  refine wpAny_bind (wpAny_bind (wpAny_field ho hd (x := .none) rfl (wpAny_bind (wpAny_field ho hd (x := .none) rfl (wpAny_bind (wpAny_field ho hd (x := vk) rfl (wpAny_pure ?_)))))))
  refine wpAny_bind (HT.slicePart_ part ?_)
  show wpAny _ _ (if ((-1 : Int) == 0) = true then _ else _) _ _ s
  rw [if_neg (by decide)]
  refine wpAny_bind (HT.slicePart_ .none (wpAny_bind (HT.slicePart_ .none (wpAny_bind (wpAny_pure ?_)))))
  have e : Builtin.Slice.sliceAdjust none none (-1) (n : Int) = ((n : Int) - 1, -1) := rfl
  show wpAny _ _ (match Builtin.Slice.sliceAdjust none none (-1) (n : Int) with | (lo, hi) => pure (lo, (-1 : Int), Builtin.Slice.slicePlaces lo hi (-1))) _ _ s
  rw [e]
  show wpAny _ _ (pure ((n : Int) - 1, (-1 : Int), Builtin.Slice.slicePlaces ((n : Int) - 1) (-1) (-1))) _ _ s
  rw [rev_places]
  exact wpAny_pure goal
theorem tuple_rev {a sl : Addr} {its : Array Value} {vk : Value} {Q : Value → Shared → Prop} (tp : IsTup s.heap a its) (cell : s.heap.IsSliceOf sl .none .none vk) (part : IsPart vk (some (-1)))
    (goal : Q (.ref s.heap.objs.size) { s with heap := s.heap.push { cls := .type "tuple", data := .seq its.toList.reverse.toArray } }) (fit : its.size ≤ sizeLine) : wpAny (model prog w) A (getItem (.ref a) (.ref sl)) Q E s := by
  have fit2 : sizeOk (.seq its.toList.reverse.toArray) := by
    show its.toList.reverse.toArray.size ≤ sizeLine
    rw [List.size_toArray, List.length_reverse, Array.length_toList]
    exact fit
  obtain ⟨o, ho, oc, _⟩ := id cell
  have ty : s.TypeIs (.ref sl) "slice" := ⟨o, ho, oc⟩
  unfold getItem
  try with_reducible refine wpAny_holding ?_
  first | refine wpAny_bind (wpAny_pure ?_) | skip
  refine wpAny_bind (wpAny_sequenceKey tp.typeIs (by decide) ?_)
  refine wpAny_bind (wpAny_callSpecial?_slot (name := Str.ofString "__getitem__") tp.typeIs PyProof.Rows.slot_tuple_getitem (wpAny_call_entry PyProof.Rows.slot_tuple_getitem tp.typeIs entry_tuple_getitem ?_ (args_tuple_getitem _ _)))
  show wpAny _ _ (Builtin.Tuple.tupleItemsOf (.ref a) >>= _) _ _ s
  refine wpAny_bind (tupleItemsOf_ tp ?_)
  refine wpAny_bind (wpAny_typeOf ty ?_)
  rw [if_pos (by decide)]
  refine wpAny_bind (slice_rev cell part ?_)
  have no : ¬ ((((its.size : Int) - 1) == 0 && (-1 : Int) == 1 && its.size == its.size) = true) := by
    intro q
    rw [Bool.and_eq_true, Bool.and_eq_true] at q
    exact absurd q.1.2 (by decide)
  show wpAny _ _ (if (((its.size : Int) - 1) == 0 && (-1 : Int) == 1 && its.size == its.size) = true then _ else _) _ _ s
  rw [if_neg no, rev_pick]
  first
    | exact wpAny_bind (m := Builtin.Tuple.tupleExact _) (wpAny_newObj_type (wpAny_pure ⟨_, rfl, wpAny_pure goal⟩) fit2)
    | exact wpAny_bind (m := Builtin.Tuple.tupleExact _) (wpAny_newObj_type (wpAny_bind (wpAny_pure (wpAny_pure ⟨_, rfl, wpAny_pure goal⟩))) fit2)
    | exact wpAny_bind (wpAny_bind (m := Builtin.Tuple.tupleExact _) (wpAny_newObj_type (wpAny_pure (wpAny_pure ⟨_, rfl, wpAny_pure goal⟩)) fit2))
    | exact wpAny_bind (wpAny_bind (m := Builtin.Tuple.tupleExact _) (wpAny_newObj_type (wpAny_pure ⟨_, rfl, wpAny_pure goal⟩) fit2))
end
section
variable {X : Cx}
def tRevX (K : PySem.W.Frag) (te : TE) : TE := fun σ H Q => te σ H fun x H1 => ∃ a xs, x = .ref a ∧ ((SqL K H1 a xs ∧ ∀ p, H1 p = none → Q (.ref p) (upd H1 p (.lst xs.reverse))) ∨ (SqT K H1 a xs ∧ ∀ p, H1 p = none → Q (.ref p) (upd H1 p (.tup xs.reverse))))
theorem pe_revX {e : Expr} {te : TE} {k : Nat} {p1 p2 p3 pos : Pos} (he : PE X e te) : PE X (.Subscript e (.Slice none none (some (.UnaryOp .USub (.Constant (.int 1) k p1) p2)) p3) pos) (tRevX X.K te) := by
  refine ⟨fun pins s σ H Q I h => Subscript_ (thn (he.run pins s σ H _ I h) fun v s1 ⟨x, H1, I1, r1, a, xs, ex, q⟩ => ?_)⟩
  subst ex
  cases r1
  have minus : PO X (some (.UnaryOp .USub (.Constant (.int 1) k p1) p2)) (tPart (tUn (rU fun i => .int (-i)) (tC (.int 1)))) := po_some (pe_un un_neg pe_int)
  refine wpAny_Slice (thn (po_none.run pins s1 σ H1 (fun o H2 => o = none ∧ H2 = H1) I1 ⟨rfl, rfl⟩) fun v1 s2 ⟨l, H2, I2, pl, el, e2⟩ => ?_)
  subst el e2
  refine thn (po_none.run pins s2 σ H2 (fun o H3 => o = none ∧ H3 = H2) I2 ⟨rfl, rfl⟩) fun v2 s3 ⟨u, H3, I3, pu, eu, e3⟩ => ?_
  subst eu e3
  refine thn (minus.run pins s3 σ H3 (fun o H4 => o = some (-1) ∧ H4 = H3) I3 ⟨1, rfl, -1, rfl, rfl, rfl⟩) fun v3 s4 ⟨o, H4, I4, ps, eo, e4⟩ => ?_
  subst eo e4
  cases pl
  cases pu
  have J : Inv X pins σ H4 { s4 with heap := s4.heap.push { cls := .type "slice", data := .fields #[.none, .none, v3] } } := I4.kept (t' := s4.toks) fun b ob z => Heap.get?_push_of_some _ z
  show wpAny (model X.prog X.w) X.A (subscriptTail e (.Slice none none (some (.UnaryOp .USub (.Constant (.int 1) k p1) p2)) p3) (.ref a) (.ref s4.heap.objs.size)) (EP X pins σ Q) X.xe { s4 with heap := s4.heap.push { cls := .type "slice", data := .fields #[.none, .none, v3] } }
  rcases q with ⟨hx, q⟩ | ⟨hx, q⟩
  · obtain ⟨its, r, ht, hz⟩ := J.list hx
    have len := r.length
    refine tail_any (ops := [.ref a, .ref s4.heap.objs.size]) ht.isList.typeIs (PySem.slot_list_getitem.lookup) ?_ (by with_unfolding_all rfl)
    refine wpAny_getItem_list_slice ht.isList (Heap.IsSliceOf.new _ .none .none v3) .none .none ps (by decide) ?_ (by rw [List.size_toArray]; omega)
    rw [PySem.W.krv_pick]
    refine ⟨.ref _, _, J.laid (t' := s4.toks) (o := .lst xs.reverse) (fun b ob z => Heap.get?_push_of_some _ z) (Nat.le_refl _) ?_, rfl, q _ (J.hok.fresh (Nat.le_refl _))⟩
    exact ⟨by rw [List.length_reverse]; exact hz, _, 0, r.reverse, Heap.get?_push_size _ rfl⟩
  · obtain ⟨its, r, ht, hz⟩ := J.tuple hx
    have len := r.length
    refine tail_any (ops := [.ref a, .ref s4.heap.objs.size]) ht.typeIs PyProof.Rows.slot_tuple_getitem.lookup ?_ (by with_unfolding_all rfl)
    refine tuple_rev ht (Heap.IsSliceOf.new _ .none .none v3) ps ?_ (by rw [List.size_toArray]; omega)
    refine ⟨.ref _, _, J.laid (t' := s4.toks) (o := .tup xs.reverse) (fun b ob z => Heap.get?_push_of_some _ z) (Nat.le_refl _) ?_, rfl, q _ (J.hok.fresh (Nat.le_refl _))⟩
    exact ⟨by rw [List.length_reverse]; exact hz, _, r.reverse, IsTup.new _ _⟩
end
theorem DnL.rev {K : PySem.W.Frag} {F : Hp} : ∀ {xs : List V} {ds : List D}, DnL K F xs ds → DnL K F xs.reverse ds.reverse
  | [], _, .nil => .nil
  | x :: xs, d :: ds, .cons h r => by
    rw [List.reverse_cons, List.reverse_cons]
    exact (DnL.rev r).append (.cons h .nil)
def revS (s : S) (g : G) : R S := match s with
  | .d (.tup ds) => .ok (.d (.tup ds.reverse)) g
  | s => match readLL g s with
    | some ds => .ok (.d (.lst ds.reverse)) g
    | none => .bad
def revD (f : DE S) : DE S := fun ρ g => (f ρ g).bind revS
section
variable {X : Cx} {W : WX}
theorem ed_rev {e : Expr} {f : DE S} {k : Nat} {p1 p2 p3 pos : Pos} (h : ED X W e f) : ED X W (.Subscript e (.Slice none none (some (.UnaryOp .USub (.Constant (.int 1) k p1) p2)) p3) pos) (revD f) :=
  pe_weak (pe_revX h) fun σ H Q ⟨μ, F, g, ρ, r, re, q⟩ => by
    obtain ⟨μ0, F0, g0, ρ0, r0, re0, p0⟩ := tD.step r re q
    refine ⟨μ0, F0, g0, ρ0, r0, re0, p0.imp fun x H1 ⟨μ1, F1, a1, g1, r1, re1, s1, p1⟩ => ?_⟩
    have lst : ∀ {ds : List D}, readLL g1 a1 = some ds → Post (relS X.K) X.K μ1 F1 (XW W σ) (.ok (.d (.lst ds.reverse)) g1) Q → ∃ a xs, x = .ref a ∧ ((SqL X.K H1 a xs ∧ ∀ p, H1 p = none → Q (.ref p) (upd H1 p (.lst xs.reverse))) ∨ (SqT X.K H1 a xs ∧ ∀ p, H1 p = none → Q (.ref p) (upd H1 p (.tup xs.reverse)))) := fun {ds} e1 p1 => by
      obtain ⟨a, xs, rfl, q, hd⟩ := readLL_ok r1 s1 e1
      refine ⟨a, xs, rfl, .inl ⟨q, fun p hp => ?_⟩⟩
      exact p1 μ1 _ _ _ (Ext.new (r1.fresh hp)) (r1.new hp) (.d (.lst upd_same (hd.rev.mono (Ext.new (μ := μ1) (r1.fresh hp)).f)))
    unfold revS at p1
    split at p1
    · cases s1 with
      | d s1 =>
      cases s1 with
      | @tup a xs ds hq hd =>
        refine ⟨a, xs, rfl, .inr ⟨ex_t r1.ex hq, fun p hp => ?_⟩⟩
        exact p1 μ1 _ _ _ (Ext.new (r1.fresh hp)) (r1.new hp) (.d (.tup (SqT.of upd_same) (hd.rev.mono (Ext.new (μ := μ1) (r1.fresh hp)).f)))
    · cases e1 : readLL g1 a1 with
      | none => rw [e1] at p1; exact p1.elim
      | some ds => rw [e1] at p1; exact lst e1 p1
end
/-! ### name += e -/
def augS (i : Nat) (f : DE S) (op : S → S → G → R S) : DS := fun ρ g => match ρ[i]? with
  | some (some s0) => (f ρ g).toO ρ fun s g1 => (op s0 s g1).toO ρ fun v g2 => .nx (ρ.set i (some v)) g2
  | _ => .bad
section
variable {X : Cx} {W : WX}
theorem sd_aug {i : Nat} {x : Str} {e : Expr} {f : DE S} {op : Operator} {r : R2} {o : S → S → G → R S} {pos pos' : Pos} (hN : X.N.Nodup) (hi : X.N[i]? = some x) (hx : Loc X.env.scope x) (he : ED X W e f) (ho : OpR X (inplaceOp op) r) (hd : OpD X.K r o)
    (hf : X.fn x = true ∨ X.env.scope.names.lookup x = some .local := by first | exact .inl rfl | exact .inr rfl | assumption) : SD X W (.AugAssign (.Name x pos') op e pos) (augS i f o) :=
  ps_weak (ps_aug (ti := r) hN hi hx he (fun pins s σ H x y v u Q I rx ry h => ho pins s σ H x y v u Q I rx ry h) hf) fun D σ H ⟨μ, F, g, ρ, r0, re, q⟩ => by
    unfold augS at q
    cases e1 : ρ[i]? with
    | none => rw [e1] at q; exact q.elim
    | some o1 =>
      cases o1 with
      | none => rw [e1] at q; exact q.elim
      | some s0 =>
        rw [e1] at q
        obtain ⟨v, hv, sv⟩ := re.get e1
        obtain ⟨μ0, F0, g0, ρ0, r1, re1, p0⟩ := tD.stepS r0 re q
        refine ⟨v, hv, μ0, F0, g0, ρ0, r1, re1, p0.imp fun y H1 ⟨μ1, F1, a1, g1, r2, re2, s1, p1⟩ => ?_⟩
        obtain ⟨v', hv', sv'⟩ := re2.get e1
        rw [hv] at hv'
        cases hv'
        refine hd μ1 F1 H1 g1 _ v y s0 a1 _ r2 sv' s1 ((postO re2 p1).imp fun z H2 ⟨μ2, F2, a2, g2, r3, re3, s2, p2⟩ => ?_)
        exact p2 μ2 F2 H2 _ (.refl _ _) r3 (Re.set s2 i re3)
end
/-! ### is, is not, of bools -/
def isBF (neg : Bool) : S → S → G → R S := fun a b g => match a, b with
  | .d (.bl x), .d (.bl y) => .ok (.d (.bl (if neg then !(decide (x = y)) else decide (x = y)))) g
  | _, _ => .bad
theorem opd_isB {K : PySem.W.Frag} : OpD K rIsB (isBF false) := by
  intro μ F H g E x y a b Q rp sx sy p
  unfold isBF at p
  split at p
  · rename_i i j
    cases sx with
    | d sx =>
    cases sy with
    | d sy =>
    cases sx
    cases sy
    exact ⟨i, j, rfl, rfl, Post.ok p rp (.d (.bl _))⟩
  · exact p.elim
theorem opd_notB {K : PySem.W.Frag} : OpD K rNotB (isBF true) := by
  intro μ F H g E x y a b Q rp sx sy p
  unfold isBF at p
  split at p
  · rename_i i j
    cases sx with
    | d sx =>
    cases sy with
    | d sy =>
    cases sx
    cases sy
    exact ⟨i, j, rfl, rfl, Post.ok p rp (.d (.bl _))⟩
  · exact p.elim
end DL
/-! DLV2: a, b = x, y. -/
namespace DL
open PySem PySem.Spec PyProof.Rows L2
def parS (i j : Nat) (fl : DE (List S)) : DS := fun ρ g => (fl ρ g).toO ρ fun ss g1 => match ss with
  | [s, t] => .nx ((ρ.set i (some s)).set j (some t)) g1
  | _ => .bad
section
variable {X : Cx} {W : WX}
theorem sd_par {i j : Nat} {x y : Str} {a b : Expr} {fl : DE (List S)} {px py pt pos : Pos} {kt k2 pt2} (hc : X.calm = true) (hN : X.N.Nodup) (hi : X.N[i]? = some x) (hj : X.N[j]? = some y) (hij : i ≠ j)
    (hx : X.env.scope.names.lookup x = some .local) (hy : X.env.scope.names.lookup y = some .local) (ha : LD X W [a, b] fl)
    (hw : swappedStores [.Tuple [.Name x px, .Name y py] kt pt] (.Tuple [a, b] k2 pt2) X.env = pure (some [x, y]))
    (hs : swapsWithSole [.Tuple [.Name x px, .Name y py] kt pt] (.Tuple [a, b] k2 pt2) pos.line X.env = pure false := by rfl) :
    SD X W (.Assign [.Tuple [.Name x px, .Name y py] kt pt] (.Tuple [a, b] k2 pt2) pos) (parS i j fl) :=
  ps_weak (ps_par hc hN hi hj hij hx hy ha hw hs) fun D σ H ⟨μ, F, g, ρ, r, re, q⟩ => by
    unfold parS at q
    refine ⟨μ, F, g, ρ, r, re, (postO (rel := relL X.K) re q).imp fun vs H1 ⟨μ1, F1, ss, g1, r1, re1, sv, p1⟩ => ?_⟩
    dsimp only at p1
    split at p1
    · rename_i s t
      cases sv with
      | cons s1 tl =>
      cases tl with
      | cons s2 tl =>
      cases tl
      exact ⟨_, _, rfl, p1 μ1 F1 H1 _ (.refl _ _) r1 (Re.set s2 j (Re.set s1 i re1))⟩
    · exact p1.elim
end
end DL
/-! DLW: reckoning with the functions: no program in sight. -/
namespace DL
open PySem PySem.Spec L2
section
variable (i j : Int) (a b : D)
@[simp] theorem addD_i : addD (.int i) (.int j) = some (.int (i + j)) := rfl
@[simp] theorem subD_i : subD (.int i) (.int j) = some (.int (i - j)) := rfl
@[simp] theorem ltD_i : ltD (.int i) (.int j) = some (.bl (decide (i < j))) := rfl
@[simp] theorem leD_i : leD (.int i) (.int j) = some (.bl (decide (i ≤ j))) := rfl
@[simp] theorem gtD_i : gtD (.int i) (.int j) = some (.bl (decide (j < i))) := rfl
@[simp] theorem geD_i : geD (.int i) (.int j) = some (.bl (decide (j ≤ i))) := rfl
@[simp] theorem mulD_i : mulD (.int i) (.int j) = if lg i + lg j < 1000000 then some (.int (i * j)) else none := by
  unfold mulD fIC
  by_cases h : lg i + lg j < 1000000 <;> simp [h]
@[simp] theorem divD_i : divD (.int i) (.int j) = if j ≠ 0 ∧ lg j < 9000 then some (.int (i.fdiv j)) else none := by
  unfold divD fIC
  by_cases h : j ≠ 0 ∧ lg j < 9000 <;> simp [h]
@[simp] theorem modD_i : modD (.int i) (.int j) = if j ≠ 0 then some (.int (i.fmod j)) else none := by
  unfold modD fIC
  by_cases h : j = 0 <;> simp [h]
@[simp] theorem powD_i : powD (.int i) (.int j) = if 0 ≤ j ∧ j ≤ 1000000 ∧ i.natAbs < 2 ^ 64 then some (.int (i ^ j.toNat)) else none := by
  unfold powD fIC
  by_cases h : 0 ≤ j ∧ j ≤ 1000000 ∧ i.natAbs < 2 ^ 64 <;> simp [h]
@[simp] theorem eqD_a : eqD a b = (eqF a b).map D.bl := rfl
@[simp] theorem neD_a : neD a b = (eqF a b).map fun b => D.bl (!b) := rfl
end
/-! ### data with a Lean type -/
class Enc (α : Type) [DecidableEq α] [PySem.W.Datum α] where
  encd : α → D
  py : ∀ a : α, toPy (encd a) = some (PySem.W.Datum.toD (α := α) a)
  lay : ∀ a : α, (PySem.W.Datum.toD (α := α) a).canLay0 = true
abbrev enc {α : Type} [DecidableEq α] [PySem.W.Datum α] [Enc α] (a : α) : D := Enc.encd a
instance : Enc Int := ⟨.int, fun _ => rfl, fun _ => rfl⟩
instance : Enc Bool := ⟨.bl, fun _ => rfl, fun _ => rfl⟩
instance : Enc Unit := ⟨fun _ => .non, fun _ => rfl, fun _ => rfl⟩
section
variable {α β γ : Type} [DecidableEq α] [PySem.W.Datum α] [Enc α] [DecidableEq β] [PySem.W.Datum β] [Enc β] [DecidableEq γ] [PySem.W.Datum γ] [Enc γ]
theorem toPyL_enc : ∀ xs : List α, toPyL (xs.map enc) = some (xs.map PySem.W.Datum.toD)
  | [] => rfl
  | x :: xs => by
    rw [List.map_cons, List.map_cons, toPyL, Enc.py x, toPyL_enc xs]
theorem layAll_enc : ∀ xs : List α, PyData.canLayAll0 (xs.map PySem.W.Datum.toD) = true
  | [] => rfl
  | x :: xs => by
    rw [List.map_cons, PyData.canLayAll0, Enc.lay x, layAll_enc xs]; rfl
instance : Enc (PySem.W.Tup α) := ⟨fun t => .tup (t.items.map enc), fun t => by simp only [toPy]; rw [toPyL_enc]; rfl, fun t => by
  show PyData.canLay0 (.tuple _) = true
  simp only [PyData.canLay0]; exact layAll_enc _⟩
instance : Enc (List α) := ⟨fun t => .lst (t.map enc), fun t => by simp only [toPy]; rw [toPyL_enc]; rfl, fun t => by
  show PyData.canLay0 (.list _) = true
  simp only [PyData.canLay0]; exact layAll_enc _⟩
instance : Enc (α × β) := ⟨fun p => .tup [enc p.1, enc p.2], fun p => by
  simp only [toPy, toPyL, Enc.py]; rfl, fun p => by
  show PyData.canLay0 (.tuple [_, _]) = true
  simp only [PyData.canLay0, PyData.canLayAll0, Enc.lay]; rfl⟩
instance : Enc (PySem.W.T3 α β γ) := ⟨fun p => .tup [enc p.a, enc p.b, enc p.c], fun p => by
  simp only [toPy, toPyL, Enc.py]; rfl, fun p => by
  show PyData.canLay0 (.tuple [_, _, _]) = true
  simp only [PyData.canLay0, PyData.canLayAll0, Enc.lay]; rfl⟩
theorem eqF_enc (h : PySem.W.Datum.depth α ≤ 64) (a b : α) : eqF (enc a) (enc b) = some (decide (a = b)) := by
  unfold eqF
  rw [Enc.py, Enc.py]
  have s : ∀ a : α, SeqAt.shaped (PySem.W.Datum.toD a) = true := fun a => by
    unfold SeqAt.shaped
    rw [Enc.lay, Bool.true_and]
    exact decide_eq_true (Nat.le_trans (PySem.W.Datum.depth_le a) h)
  dsimp only
  rw [s a, s b, PySem.W.Datum.eqv]
  rfl
end
@[simp] theorem eqF_int (i j : Int) : eqF (.int i) (.int j) = some (decide (i = j)) := eqF_enc (α := Int) (by decide) i j
@[simp] theorem eqF_str (i j : Str) (h1 : PyData.strOk i = true) (h2 : PyData.strOk j = true) : eqF (.str i) (.str j) = some (decide (i = j)) := by
  have s : ∀ i : Str, PyData.strOk i = true → SeqAt.shaped (.str i) = true := fun i h => by
    unfold SeqAt.shaped
    simp [PyData.canLay0, h, PyData.depth]
  unfold eqF
  simp only [toPy, s i h1, s j h2]
  have := PySem.W.Datum.eqv (α := Str) i j
  have e : PyData.eqv (.str i) (.str j) = decide (i = j) := this
  rw [e]
  rfl
@[simp] theorem eqF_bl (i j : Bool) : eqF (.bl i) (.bl j) = some (decide (i = j)) := eqF_enc (α := Bool) (by decide) i j
theorem isi_ty (c : Addr → Bool) (d : D) (T n : String) (g : G) (h : tyD d = some T) (b : Bool) (hb : isTy T n = some b) : isiS c [.d d, .d (.typ n)] g = .ok (.d (.bl b)) g := by
  unfold isiS
  simp only [snap_d]
  rw [h]
  simp only [hb]

theorem sfld_ok {c : Addr} {n : Str} {fo fv : DE S} {ρ : DL.Env} {g : G} {x : D} {p : Nat} {gs : List (Str × D)} (hv : fv ρ g = .ok (.d x) g) (ho : fo ρ g = .ok (.c p) g) (hp : g[p]? = some (.ins c gs)) (hl : gs.length < 900) : sfldS c n fo fv ρ g = .nx ρ (g.set p (.ins c (putD n x gs))) := by
  unfold sfldS
  rw [hv]
  dsimp only [R.toO_ok]
  rw [ho]
  dsimp only [R.toO_ok]
  rw [hp]
  dsimp only
  rw [if_pos ⟨rfl, hl⟩]
theorem take_set_self (g : G) (p : Nat) (c : Cell) : (g.set p c).take g.length = g.set p c := List.take_of_length_le (by rw [List.length_set]; exact Nat.le_refl _)
theorem take_app1 (g : G) (c : Cell) : (g ++ [c]).take (g.length + 1) = g ++ [c] := List.take_of_length_le (by simp)
/-! ### comprehensions -/
@[simp] theorem wipeE_nil (ρ : Env) : wipeE ρ [] = ρ := rfl
@[simp] theorem wipeE_cons (ρ : Env) (v : Nat) (vs : List Nat) : wipeE ρ (v :: vs) = (wipeE ρ vs).set v none := rfl
theorem app_get (g : G) (c : Cell) : (g ++ [c])[g.length]? = some c := by simp
theorem app_set (g : G) (c d : Cell) : (g ++ [c]).set g.length d = g ++ [d] := by
  rw [List.set_append_right _ _ (Nat.le_refl _), Nat.sub_self]; rfl
theorem app_take (g : G) (c : Cell) : (g ++ [c]).take g.length = g := by simp
/-- items that are reckoned without a step of the state -/
theorem compL_map (h : DG) (t : DE Bool) (el : DE S) (ρ : Env) (g : G) (f : D → D) : ∀ (ds acc : List D),
    (∀ d ∈ ds, ∀ acc, ∃ ρ1, h (.d d) ρ = some ρ1 ∧ t ρ1 (g ++ [.lst acc]) = .ok true (g ++ [.lst acc]) ∧ el ρ1 (g ++ [.lst acc]) = .ok (.d (f d)) (g ++ [.lst acc])) → acc.length + ds.length ≤ 10000000 →
    compL g.length h t el ρ ds (g ++ [.lst acc]) = some (g ++ [.lst (acc ++ ds.map f)])
  | [], acc, _, _ => by simp [compL]
  | d :: ds, acc, hs, hl => by
    obtain ⟨ρ1, h1, h2, h3⟩ := hs d List.mem_cons_self acc
    unfold compL
    rw [h1]; dsimp only
    rw [h2]; dsimp only
    rw [h3]; dsimp only
    rw [app_get]; dsimp only
    rw [List.length_cons] at hl
    rw [if_pos (by omega), app_set, compL_map h t el ρ g f ds (acc ++ [f d]) (fun e he => hs e (List.mem_cons_of_mem _ he)) (by rw [List.length_append]; simp; omega)]
    simp
theorem compD_map {it : DE (List D)} {vs : List Nat} {h : DG} {t : DE Bool} {el : DE S} {ρ : Env} {g g1 : G} {ds : List D} (f : D → D) (hi : it ρ g = .ok ds g1)
    (hs : ∀ d ∈ ds, ∀ acc, ∃ ρ1, h (.d d) (wipeE ρ vs) = some ρ1 ∧ t ρ1 (g1 ++ [.lst acc]) = .ok true (g1 ++ [.lst acc]) ∧ el ρ1 (g1 ++ [.lst acc]) = .ok (.d (f d)) (g1 ++ [.lst acc])) (hl : ds.length ≤ 10000000) :
    compD it vs h t el ρ g = .ok (.d (.lst (ds.map f))) g1 := by
  unfold compD
  rw [hi]
  dsimp only [R.bind_ok]
  rw [compL_map h t el (wipeE ρ vs) g1 f ds [] hs (by simpa using hl)]
  simp
/-- items that step the state on: I n says how it stands when n items are to come -/
theorem compL_st (h : DG) (t : DE Bool) (el : DE S) (ρ : Env) (I : Nat → G → Prop) (P : D → Prop) : ∀ (ds acc : List D) (g : G) (n : Nat), g.length = n → I ds.length g → (∀ x ∈ acc, P x) →
    (∀ d ∈ ds, ∀ k acc g, g.length = n → I (k + 1) g → ∃ ρ1 x g', h (.d d) ρ = some ρ1 ∧ t ρ1 (g ++ [.lst acc]) = .ok true (g ++ [.lst acc]) ∧ el ρ1 (g ++ [.lst acc]) = .ok (.d x) (g' ++ [.lst acc]) ∧ g'.length = n ∧ I k g' ∧ P x) → acc.length + ds.length ≤ 10000000 →
    ∃ g' xs, compL n h t el ρ ds (g ++ [.lst acc]) = some (g' ++ [.lst xs]) ∧ g'.length = n ∧ I 0 g' ∧ xs.length = acc.length + ds.length ∧ ∀ x ∈ xs, P x
  | [], acc, g, n, hn, hi, hp, _, _ => ⟨g, acc, by simp [compL], hn, hi, by simp, hp⟩
  | d :: ds, acc, g, n, hn, hi, hp, hs, hl => by
    obtain ⟨ρ1, x, g', h1, h2, h3, h4, h5, h6⟩ := hs d List.mem_cons_self ds.length acc g hn hi
    rw [List.length_cons] at hl
    obtain ⟨g2, xs, e, q1, q2, q3, q4⟩ := compL_st h t el ρ I P ds (acc ++ [x]) g' n h4 h5 (fun y hy => by
      rcases List.mem_append.mp hy with z | z
      · exact hp y z
      · simp at z; rw [z]; exact h6) (fun e he => hs e (List.mem_cons_of_mem _ he)) (by rw [List.length_append]; simp; omega)
    refine ⟨g2, xs, ?_, q1, q2, by rw [q3]; simp; omega, q4⟩
    unfold compL
    rw [h1]; dsimp only
    rw [h2]; dsimp only
    rw [h3]; dsimp only
    subst hn
    rw [← h4, app_get]; dsimp only
    rw [if_pos (by omega), app_set, h4]
    exact e
theorem compD_st {it : DE (List D)} {vs : List Nat} {h : DG} {t : DE Bool} {el : DE S} {ρ : Env} {g g1 : G} {ds : List D} (I : Nat → G → Prop) (P : D → Prop) (hi : it ρ g = .ok ds g1) (h0 : I ds.length g1)
    (hs : ∀ d ∈ ds, ∀ k acc g, g.length = g1.length → I (k + 1) g → ∃ ρ1 x g', h (.d d) (wipeE ρ vs) = some ρ1 ∧ t ρ1 (g ++ [.lst acc]) = .ok true (g ++ [.lst acc]) ∧ el ρ1 (g ++ [.lst acc]) = .ok (.d x) (g' ++ [.lst acc]) ∧ g'.length = g1.length ∧ I k g' ∧ P x) (hl : ds.length ≤ 10000000) :
    ∃ xs g', compD it vs h t el ρ g = .ok (.d (.lst xs)) g' ∧ g'.length = g1.length ∧ I 0 g' ∧ xs.length = ds.length ∧ ∀ x ∈ xs, P x := by
  obtain ⟨g', xs, e, q1, q2, q3, q4⟩ := compL_st h t el (wipeE ρ vs) I P ds [] g1 g1.length rfl h0 (fun x hx => by cases hx) hs (by simpa using hl)
  refine ⟨xs, g', ?_, q1, q2, by simpa using q3, q4⟩
  unfold compD
  rw [hi]
  dsimp only [R.bind_ok]
  rw [e]
  dsimp only
  rw [← q1, app_get]
  dsimp only
  rw [app_take]
theorem inR_nat (k : Nat) (hk : k ≤ 1000) : inR (k : Int) = true := by
  rw [inR_iff]
  simp only [Int.reducePow, Int.reduceNeg]
  exact ⟨by omega, by omega⟩
theorem rangeL_len (k : Nat) : (rangeL 0 k).length = k := by
  unfold rangeL
  rw [List.length_map, List.length_range]; omega
theorem range1_at {j : Int} {f : DE S} {ρ : DL.Env} {g : G} (hf : f ρ g = .ok (.d (.int j)) g) (h : inR j = true) : range1 (consL f nilL) ρ g = .ok (rangeL 0 j) g := by
  have e : consL f nilL ρ g = .ok [.d (.int j)] g := by
    unfold consL
    rw [hf]
    rfl
  unfold range1
  rw [e]
  dsimp only [R.bind]
  rw [h]
  rfl
theorem range_ok {j : Int} {k : Nat} (h : j = (k : Int)) (hk : k ≤ 1000) {f : DE S} {ρ : DL.Env} {g : G} (hf : f ρ g = .ok (.d (.int j)) g) : ∃ ds : List D, range1 (consL f nilL) ρ g = .ok ds g ∧ ds.length = k :=
  ⟨rangeL 0 j, range1_at hf (by rw [h]; exact inR_nat k hk), by rw [h]; exact rangeL_len k⟩
/-! ### loops -/
theorem loopS_inv (h : DG) (body : DS) (I : Nat → Env → G → Prop) (Rt : S → G → Prop) : ∀ (ds : List D) (ρ : Env) (g : G), I ds.length ρ g →
    (∀ d ∈ ds, ∀ k ρ g, I (k + 1) ρ g → ∃ ρ1, h (.d d) ρ = some ρ1 ∧ ((∃ ρ2 g2, body ρ1 g = .nx ρ2 g2 ∧ I k ρ2 g2) ∨ ∃ s g2, body ρ1 g = .rt s g2 ∧ Rt s g2)) →
    (∃ ρ2 g2, loopS h body ds ρ g = .nx ρ2 g2 ∧ I 0 ρ2 g2) ∨ ∃ s g2, loopS h body ds ρ g = .rt s g2 ∧ Rt s g2
  | [], ρ, g, hi, _ => .inl ⟨ρ, g, rfl, hi⟩
  | d :: ds, ρ, g, hi, hs => by
    obtain ⟨ρ1, h1, h2⟩ := hs d List.mem_cons_self ds.length ρ g hi
    unfold loopS
    rw [h1]
    dsimp only
    rcases h2 with ⟨ρ2, g2, h2, h3⟩ | ⟨s, g2, h2, h3⟩
    · rw [h2]
      dsimp only
      exact loopS_inv h body I Rt ds ρ2 g2 h3 fun e he => hs e (List.mem_cons_of_mem _ he)
    · rw [h2]
      exact .inr ⟨s, g2, rfl, h3⟩
end DL
/-! DLT: the laws' tape: _law_pool and _law_draw as functions, and what a draw answers. -/
namespace DL
open PySem PySem.Spec L2
def seedB : DS := asgS 1 (bin2 (cbD (un1 intD) (consL (bin2 (bin2 (bin2 (varD 1) (cD (.int 48271)) mulS) (bin2 (cbD (un1 intD) (consL (varD 2) (nilL))) (cD (.int 2147483629)) (opD modD)) addS) (cD (.int 11)) addS) (nilL))) (cD (.int 2147483647)) (opD modD))
def bigT : DE Bool := asB (bin2 (cbD (un1 absD) (consL (varD 2) (nilL))) (bin2 (cD (.int 10)) (cD (.int 18)) (opD powD)) (opD geD))
def bigE : DE S := cbD (un1 absD) (consL (varD 2) (nilL))
def poolS : DS :=
  seqS (asgS 1 (bin2 (bin2 (bin2 (cbD (un1 intD) (consL (cbD (un1 sumD) (consL (slD (varD 0) (noO) (someO (cD (.int 1)))) (nilL))) (nilL))) (cD (.int 1000003)) (opD modD)) (cbD (un1 lenD) (consL (varD 0) (nilL))) addS) (cD (.int 1)) addS)) (seqS (forS (seqI (slD (varD 0) (noO) (someO (cD (.int 63))))) (nameG 2) seedB) (retS (tapD (consL (varD 1) (consL (cD (.int 0)) (consL (compC (seqI (slD (varD 0) (noO) (someO (cD (.int 63))))) [2] (nameG 2) bigT bigE) (nilL)))))))
noncomputable def drawS : DS :=
  seqS (putSt (varD 0) (cD (.int 1)) (bin2 (bin2 (varD 0) (cD (.int 1)) ixS) (cD (.int 1)) addS)) (seqS (asgS 2 (bin2 (varD 0) (cD (.int 2)) ixS)) (seqS (ifS (asB (bin2 (cbD (un1 lenD) (consL (varD 2) (nilL))) (cD (.int 0)) (opD gtD))) (seqS (asgS 4 (bin2 (cbD (un1 intD) (consL (bin2 (varD 2) (cD (.int 0)) ixS) (nilL))) (varD 1) (opD modD))) (seqS (putSt (varD 2) (cD (.int 0)) (bin2 (cbD (un1 intD) (consL (bin2 (varD 2) (cD (.int 0)) ixS) (nilL))) (varD 1) (opD divD))) (seqS (ifS (asB (bin2 (bin2 (varD 2) (cD (.int 0)) ixS) (cD (.int 0)) (opD eqD))) (exprS (mthL popIS (varD 2) (consL (cD (.int 0)) (nilL)))) (nextS)) (retS (varD 4))))) (nextS)) (seqS (asgS 3 (bin2 (cbD (un1 intD) (consL (bin2 (bin2 (bin2 (varD 0) (cD (.int 0)) ixS) (bin2 (cD (.int 7919)) (bin2 (varD 0) (cD (.int 1)) ixS) mulS) addS) (cD (.int 48271)) mulS) (nilL))) (cD (.int 2147483647)) (opD modD))) (seqS (asgS 3 (bin2 (cbD (un1 intD) (consL (bin2 (varD 3) (bin2 (bin2 (varD 3) (cD (.int 1009)) (opD divD)) (cD (.int 69621)) addS) mulS) (nilL))) (cD (.int 2147483647)) (opD modD))) (seqS (asgS 3 (bin2 (cbD (un1 intD) (consL (bin2 (varD 3) (bin2 (bin2 (varD 3) (cD (.int 2003)) (opD divD)) (cD (.int 40692)) addS) mulS) (nilL))) (cD (.int 2147483399)) (opD modD))) (retS (bin2 (cbD (un1 intD) (consL (bin2 (varD 3) (cD (.int 16)) (opD divD)) (nilL))) (varD 1) (opD modD))))))))
noncomputable def drawF : DF := defD 5 drawS
def poolF : DF := defC 3 poolS
/-- the tape's cell; n: how many draws are left -/
def TapeC (n : Nat) (c : Cell) : Prop := ∃ (a b : Int) (cs : List Int), c = .tp [.int a, .int b] cs [] ∧ 0 ≤ a ∧ a < 2147483647 ∧ 0 ≤ b ∧ b + n ≤ 1000000000000 ∧ ∀ x ∈ cs, 0 ≤ x
def TapeAt (p n : Nat) (g : G) : Prop := ∃ c, g[p]? = some c ∧ TapeC n c
/-- but for the tape at p all is as it was -/
def Tk (p n : Nat) (g g' : G) : Prop := ∃ c, TapeC n c ∧ g' = g.set p c
theorem TapeC.mono {n m : Nat} {c : Cell} (h : TapeC n c) (hm : m ≤ n) : TapeC m c := by
  obtain ⟨a, b, cs, e, h1, h2, h3, h4, h5⟩ := h
  exact ⟨a, b, cs, e, h1, h2, h3, by omega, h5⟩
theorem TapeAt.mono {p n m : Nat} {g : G} (h : TapeAt p n g) (hm : m ≤ n) : TapeAt p m g := by
  obtain ⟨c, e, h⟩ := h
  exact ⟨c, e, h.mono hm⟩
theorem TapeAt.lt {p n : Nat} {g : G} (h : TapeAt p n g) : p < g.length := by
  obtain ⟨c, e, _⟩ := h
  exact (List.getElem?_eq_some_iff.mp e).1
theorem Tk.at {p n m : Nat} {g g' : G} (k : Tk p n g g') (h : TapeAt p m g) : TapeAt p n g' := by
  obtain ⟨c, hc, rfl⟩ := k
  exact ⟨c, List.getElem?_set_self h.lt, hc⟩
theorem Tk.len {p n : Nat} {g g' : G} (k : Tk p n g g') : g'.length = g.length := by
  obtain ⟨c, hc, rfl⟩ := k
  simp
theorem Tk.trans {p n m : Nat} {g g1 g2 : G} (a : Tk p n g g1) (b : Tk p m g1 g2) : Tk p m g g2 := by
  obtain ⟨c, hc, rfl⟩ := a
  obtain ⟨d, hd, rfl⟩ := b
  exact ⟨d, hd, by rw [List.set_set]⟩
theorem Tk.refl {p n : Nat} {g : G} (h : TapeAt p n g) : Tk p n g g := by
  obtain ⟨c, e, hc⟩ := h
  refine ⟨c, hc, ?_⟩
  obtain ⟨hl, e⟩ := List.getElem?_eq_some_iff.mp e
  rw [← e]; simp
theorem Tk.mono {p n m : Nat} {g g' : G} (k : Tk p n g g') (hm : m ≤ n) : Tk p m g g' := by
  obtain ⟨c, hc, e⟩ := k
  exact ⟨c, hc.mono hm, e⟩
theorem Tk.get {p n : Nat} {g g' : G} (k : Tk p n g g') {i : Nat} (h : i ≠ p) : g'[i]? = g[i]? := by
  obtain ⟨c, hc, rfl⟩ := k
  rw [List.getElem?_set_ne (Ne.symm h)]
theorem Tk.app {p n : Nat} {g g' : G} {r : G} (k : Tk p n (g ++ r) g') (h : p < g.length) : ∃ g1, g' = g1 ++ r ∧ Tk p n g g1 := by
  obtain ⟨c, hc, rfl⟩ := k
  exact ⟨g.set p c, by rw [List.set_append_left _ _ h], c, hc, rfl⟩
theorem TapeAt.app {p n : Nat} {g r : G} (h : TapeAt p n g) : TapeAt p n (g ++ r) := by
  have hl := h.lt
  obtain ⟨c, e, hc⟩ := h
  exact ⟨c, by rw [List.getElem?_append_left hl]; exact e, hc⟩
theorem Tk.take {p n : Nat} {g g' : G} (k : Tk p n g g') (m : Nat) : g'.take m = (g.take m) ∨ ∃ c, TapeC n c ∧ g'.take m = (g.take m).set p c := by
  obtain ⟨c, hc, rfl⟩ := k
  exact .inr ⟨c, hc, by rw [List.take_set]⟩
theorem lg_le {i : Int} {k : Nat} (h : i.natAbs < 2 ^ k) : lg i ≤ k := by
  unfold lg
  by_cases h0 : i.natAbs = 0
  · rw [h0]; simp
  · exact Nat.le_of_lt ((Nat.log2_lt h0).mpr h)
theorem lg_mul {i j : Int} {a b : Nat} (h1 : i.natAbs < 2 ^ a) (h2 : j.natAbs < 2 ^ b) (h : a + b < 1000000) : lg i + lg j < 1000000 := by
  have := lg_le h1
  have := lg_le h2
  omega
theorem mulS_int (i j : Int) (g : G) (h : lg i + lg j < 1000000) : mulS (.d (.int i)) (.d (.int j)) g = .ok (.d (.int (i * j))) g := by
  show opD mulD (.d (.int i)) (.d (.int j)) g = _
  simp [h]
@[simp] theorem addS_int (i j : Int) (g : G) : addS (.d (.int i)) (.d (.int j)) g = .ok (.d (.int (i + j))) g := rfl
theorem atI0 {α : Type} (x : α) (xs : List α) : atI (x :: xs) 0 = some x := by
  unfold atI ixN
  rw [if_pos (Int.le_refl _), if_pos (by simp)]
  rfl
theorem tp_ix0 {g : G} {p : Nat} {x y : D} {cs : List Int} (h : g[p]? = some (.tp [x, y] cs [])) : ixS (.c p) (.d (.int 0)) g = .ok (.d x) g := by
  unfold ixS
  dsimp only
  rw [h]
  rfl
theorem tp_ix1 {g : G} {p : Nat} {x y : D} {cs : List Int} (h : g[p]? = some (.tp [x, y] cs [])) : ixS (.c p) (.d (.int 1)) g = .ok (.d y) g := by
  unfold ixS
  dsimp only
  rw [h]
  rfl
theorem tp_ix2 {g : G} {p : Nat} {x y : D} {cs : List Int} (h : g[p]? = some (.tp [x, y] cs [])) : ixS (.c p) (.d (.int 2)) g = .ok (.i p) g := by
  unfold ixS
  dsimp only
  rw [h]
  rfl
theorem tp_put1 {g : G} {p : Nat} {x y v : D} {cs : List Int} (h : g[p]? = some (.tp [x, y] cs [])) : putS (.d v) (.c p) (.d (.int 1)) g = some (g.set p (.tp [x, v] cs [])) := by
  unfold putS
  dsimp only
  rw [h]
  rfl
theorem in_ix0 {g : G} {p : Nat} {pre post : List D} {c : Int} {cs : List Int} (h : g[p]? = some (.tp pre (c :: cs) post)) : ixS (.i p) (.d (.int 0)) g = .ok (.d (.int c)) g := by
  unfold ixS
  simp only [readL, h, List.map_cons, atI0]
theorem in_put0 {g : G} {p : Nat} {pre post : List D} {c v : Int} {cs : List Int} (h : g[p]? = some (.tp pre (c :: cs) post)) : putS (.d (.int v)) (.i p) (.d (.int 0)) g = some (g.set p (.tp pre (v :: cs) post)) := by
  unfold putS
  dsimp only
  rw [h]
  dsimp only
  rw [show ixN (c :: cs).length 0 = some 0 by unfold ixN; rw [if_pos (Int.le_refl _), if_pos (by simp)]; rfl]
  rfl
theorem in_pop0 {g : G} {p : Nat} {pre post : List D} {c : Int} {cs : List Int} (h : g[p]? = some (.tp pre (c :: cs) post)) : popIS (.i p) [.d (.int 0)] g = .ok (.d (.int c)) (g.set p (.tp pre cs post)) := by
  have e : seqIndex? 0 (c :: cs).length = some 0 := by
    unfold seqIndex?
    simp
  unfold popIS
  dsimp only
  rw [if_pos (inR_iff.mpr (by decide)), h]
  dsimp only
  rw [e]
  rfl
theorem fm_lt {i j : Int} (h : 0 < j) : 0 ≤ i.fmod j ∧ i.fmod j < j := ⟨Int.fmod_nonneg_of_pos _ h, Int.fmod_lt_of_pos _ h⟩
theorem fd_bd {i j : Int} (h0 : 0 ≤ i) (h : 0 < j) : 0 ≤ i.fdiv j ∧ i.fdiv j ≤ i := by
  rw [Int.fdiv_eq_ediv_of_nonneg _ (by omega)]
  exact ⟨Int.ediv_nonneg h0 (by omega), Int.ediv_le_self _ h0⟩
theorem draw_ok {g : G} {p n : Nat} (T : TapeAt p (n + 1) g) {m : Int} (hm : 0 < m) (hl : lg m < 9000) : ∃ v g', drawF [.c p, .d (.int m)] g = .ok (.d (.int v)) g' ∧ Tk p n g g' ∧ 0 ≤ v ∧ v < m := by
  have hlt := T.lt
  obtain ⟨c, hc, a, b, cs, rfl, ha, ha2, hb, hb2, hcs⟩ := T
  have m0 : m ≠ 0 := by omega
  cases cs with
  | nil =>
    have h1 := fm_lt (i := (a + 7919 * (b + 1)) * 48271) (j := 2147483647) (by decide)
    have h2 := fd_bd (i := ((a + 7919 * (b + 1)) * 48271).fmod 2147483647) (j := 1009) h1.1 (by decide)
    have h3 := fm_lt (i := ((a + 7919 * (b + 1)) * 48271).fmod 2147483647 * ((((a + 7919 * (b + 1)) * 48271).fmod 2147483647).fdiv 1009 + 69621)) (j := 2147483647) (by decide)
    have k1 : ∀ g : G, mulS (.d (.int 7919)) (.d (.int (b + 1))) g = .ok (.d (.int (7919 * (b + 1)))) g := fun g => mulS_int _ _ _ (lg_mul (a := 13) (b := 64) (by decide) (by omega) (by decide))
    have k2 : ∀ g : G, mulS (.d (.int (a + 7919 * (b + 1)))) (.d (.int 48271)) g = .ok (.d (.int ((a + 7919 * (b + 1)) * 48271))) g := fun g => mulS_int _ _ _ (lg_mul (a := 128) (b := 16) (by omega) (by decide) (by decide))
    generalize hx : ((a + 7919 * (b + 1)) * 48271).fmod 2147483647 = x at *
    have k3 : ∀ g : G, mulS (.d (.int x)) (.d (.int (x.fdiv 1009 + 69621))) g = .ok (.d (.int (x * (x.fdiv 1009 + 69621)))) g := fun g => mulS_int _ _ _ (lg_mul (a := 64) (b := 64) (by omega) (by omega) (by decide))
    generalize hy : (x * (x.fdiv 1009 + 69621)).fmod 2147483647 = y at *
    have h4 := fd_bd (i := y) (j := 2003) h3.1 (by decide)
    have k4 : ∀ g : G, mulS (.d (.int y)) (.d (.int (y.fdiv 2003 + 40692))) g = .ok (.d (.int (y * (y.fdiv 2003 + 40692)))) g := fun g => mulS_int _ _ _ (lg_mul (a := 64) (b := 64) (by omega) (by omega) (by decide))
    generalize hz : (y * (y.fdiv 2003 + 40692)).fmod 2147483399 = z at *
    have h5 := fm_lt (i := z.fdiv 16) (j := m) hm
    refine ⟨(z.fdiv 16).fmod m, g.set p (.tp [.int a, .int (b + 1)] [] []), ?_, ⟨_, ⟨a, b + 1, [], rfl, ha, ha2, by omega, by omega, by simp⟩, rfl⟩, h5.1, h5.2⟩
    have hs : (g.set p (.tp [.int a, .int (b + 1)] [] []))[p]? = some (.tp [.int a, .int (b + 1)] [] []) := List.getElem?_set_self hlt
    have d1 : lg 1009 < 9000 := by decide
    have d2 : lg 2003 < 9000 := by decide
    have d3 : lg 16 < 9000 := by decide
    unfold drawF defD drawS
    simp [putSt, tp_ix1 hc, tp_put1 hc, tp_ix2 hs, tp_ix0 hs, tp_ix1 hs, snap, hs, k1, k2, hx, k3, hy, k4, hz, d1, d2, d3, m0, finD]
    rw [List.take_of_length_le (by simp)]
  | cons c cs =>
    have hc0 : 0 ≤ c := hcs c List.mem_cons_self
    have h1 := fm_lt (i := c) (j := m) hm
    have h2 := fd_bd (i := c) (j := m) hc0 hm
    have hs : (g.set p (.tp [.int a, .int (b + 1)] (c :: cs) []))[p]? = some (.tp [.int a, .int (b + 1)] (c :: cs) []) := List.getElem?_set_self hlt
    have hs2 : (g.set p (.tp [.int a, .int (b + 1)] (c.fdiv m :: cs) []))[p]? = some (.tp [.int a, .int (b + 1)] (c.fdiv m :: cs) []) := List.getElem?_set_self hlt
    have gt : (0 : Int) < (cs.length : Int) + 1 := by omega
    by_cases h0 : c.fdiv m = 0
    · refine ⟨c.fmod m, g.set p (.tp [.int a, .int (b + 1)] cs []), ?_, ⟨_, ⟨a, b + 1, cs, rfl, ha, ha2, by omega, by omega, fun x hx => hcs x (List.mem_cons_of_mem _ hx)⟩, rfl⟩, h1.1, h1.2⟩
      rw [h0] at hs2
      unfold drawF defD drawS
      simp [putSt, tp_ix1 hc, tp_put1 hc, tp_ix2 hs, snap, hs, gt, in_ix0 hs, in_put0 hs, List.set_set, in_ix0 hs2, in_pop0 hs2, m0, hl, mthL, readLL, readL, hs2, h0, finD]
      rw [List.take_of_length_le (by simp)]
    · refine ⟨c.fmod m, g.set p (.tp [.int a, .int (b + 1)] (c.fdiv m :: cs) []), ?_, ⟨_, ⟨a, b + 1, c.fdiv m :: cs, rfl, ha, ha2, by omega, by omega, fun x hx => ?_⟩, rfl⟩, h1.1, h1.2⟩
      · unfold drawF defD drawS
        simp [putSt, tp_ix1 hc, tp_put1 hc, tp_ix2 hs, snap, hs, gt, in_ix0 hs, in_put0 hs, List.set_set, in_ix0 hs2, m0, hl, h0, finD]
        rw [List.take_of_length_le (by simp)]
      · rcases List.mem_cons.mp hx with rfl | z
        · exact h2.1
        · exact hcs x (List.mem_cons_of_mem _ z)

/-! ### the pool -/
theorem sl1 (ns : List Int) (ρ : Env) (g : G) (k : Int) (f : DE S) (hf : f ρ g = .ok (.d (.scr ns)) g) : slD f noO (someO (cD (.int k))) ρ g = .ok (.d (.lst (cutL (ns.map D.int) none (some k)))) g := by
  unfold slD
  simp [hf, readLL, readL]
theorem intsD_map (cs : List Int) : intsD (cs.map D.int) = some cs := by
  induction cs with
  | nil => rfl
  | cons c cs ih => rw [List.map_cons, intsD, ih]; rfl
theorem cut_map (ns : List Int) (lo hi : Option Int) : cutL (ns.map D.int) lo hi = (cutL ns lo hi).map D.int := by
  unfold cutL
  rw [List.length_map, List.map_take, List.map_drop]
/-- the great ones are picked out -/
theorem compL_big (ρ : Env) (hρ : ρ.length = 3) (g : G) : ∀ (ns acc : List Int), (∀ x ∈ acc, 0 ≤ x) → acc.length + ns.length ≤ 10000000 →
    ∃ cs : List Int, compL g.length (nameG 2) bigT bigE ρ (ns.map D.int) (g ++ [.lst (acc.map D.int)]) = some (g ++ [.lst (cs.map D.int)]) ∧ ∀ x ∈ cs, 0 ≤ x
  | [], acc, h, _ => ⟨acc, by simp [compL], h⟩
  | n :: ns, acc, h, hl => by
    rw [List.length_cons] at hl
    have hab : 0 ≤ (if n < 0 then -n else n) := by split <;> omega
    have hv : (ρ.set 2 (some (.d (.int n))))[2]? = some (some (.d (.int n))) := List.getElem?_set_self (by omega)
    have e1 : bigT (ρ.set 2 (some (.d (.int n)))) (g ++ [.lst (acc.map D.int)]) = .ok (decide ((1000000000000000000 : Int) ≤ (if n < 0 then -n else n))) (g ++ [.lst (acc.map D.int)]) := by
      unfold bigT
      simp [hv]
    have e2 : bigE (ρ.set 2 (some (.d (.int n)))) (g ++ [.lst (acc.map D.int)]) = .ok (.d (.int (if n < 0 then -n else n))) (g ++ [.lst (acc.map D.int)]) := by
      unfold bigE
      simp [hv]
    rw [List.map_cons]
    unfold compL
    dsimp only [nameG]
    rw [e1]
    by_cases hb : (1000000000000000000 : Int) ≤ (if n < 0 then -n else n)
    · obtain ⟨cs, e, hc⟩ := compL_big ρ hρ g ns (acc ++ [if n < 0 then -n else n]) (fun x hx => by
        rcases List.mem_append.mp hx with z | z
        · exact h x z
        · simp at z; rw [z]; exact hab) (by rw [List.length_append]; simp; omega)
      refine ⟨cs, ?_, hc⟩
      rw [decide_eq_true hb]
      dsimp only
      rw [e2]
      dsimp only
      rw [app_get]
      dsimp only
      rw [if_pos (by rw [List.length_map]; omega), app_set]
      rw [List.map_append] at e
      exact e
    · obtain ⟨cs, e, hc⟩ := compL_big ρ hρ g ns acc h (by omega)
      refine ⟨cs, ?_, hc⟩
      rw [decide_eq_false hb]
      exact e
theorem loop_seed : ∀ (ns : List Int) (s : Int) (x : S) (y : Option S) (g : G), 0 ≤ s → s < 1000100000 ∨ s < 2147483647 →
    ∃ (t : Int) (z : Option S), loopS (nameG 2) seedB (ns.map D.int) [some x, some (.d (.int s)), y] g = .nx [some x, some (.d (.int t)), z] g ∧ 0 ≤ t ∧ t < 2147483647
  | [], s, x, y, g, h0, h1 => ⟨s, y, rfl, h0, by omega⟩
  | n :: ns, s, x, y, g, h0, h1 => by
    have k1 : ∀ g : G, mulS (.d (.int s)) (.d (.int 48271)) g = .ok (.d (.int (s * 48271))) g := fun g => mulS_int _ _ _ (lg_mul (a := 64) (b := 16) (by omega) (by decide) (by decide))
    have h2 := fm_lt (i := s * 48271 + n.fmod 2147483629 + 11) (j := 2147483647) (by decide)
    obtain ⟨t, z, e, h3, h4⟩ := loop_seed ns ((s * 48271 + n.fmod 2147483629 + 11).fmod 2147483647) x (some (.d (.int n))) g h2.1 (.inr h2.2)
    refine ⟨t, z, ?_, h3, h4⟩
    have e1 : seedB [some x, some (.d (.int s)), some (.d (.int n))] g = .nx [some x, some (.d (.int ((s * 48271 + n.fmod 2147483629 + 11).fmod 2147483647))), some (.d (.int n))] g := by
      unfold seedB
      simp [k1]
    rw [List.map_cons]
    unfold loopS
    dsimp only [nameG, List.set]
    rw [e1]
    exact e
theorem pool_ok (ns : List Int) (hl : ns.length ≤ 63) : ∃ c, poolF [.d (.scr ns)] [] = .ok (.c 1) [.dead, c] ∧ TapeC 1000000000000 c := by
  have h1 := fm_lt (i := (cutL ns none (some 1)).sum) (j := 1000003) (by decide)
  obtain ⟨t, z, e, h3, h4⟩ := loop_seed (cutL ns none (some 63)) ((cutL ns none (some 1)).sum.fmod 1000003 + ns.length + 1) (.d (.scr ns)) none [] (by omega) (.inl (by omega))
  have hcl : (cutL ns none (some 63)).length ≤ 63 := by
    unfold cutL
    rw [List.length_take]
    have := HT.sIx_le ns.length ns.length (Nat.le_refl _) (some 63)
    omega
  obtain ⟨cs, e2, hc⟩ := compL_big [some (.d (.scr ns)), some (.d (.int t)), none] rfl [] (cutL ns none (some 63)) [] (by simp) (by simp; omega)
  refine ⟨.tp [.int t, .int 0] cs [], ?_, ⟨t, 0, cs, rfl, h3, h4, Int.le_refl _, by decide, hc⟩⟩
  have s1 : ∀ (ρ : Env) (g : G) (k : Int), ρ[0]? = some (some (.d (.scr ns))) → slD (varD 0) noO (someO (cD (.int k))) ρ g = .ok (.d (.lst ((cutL ns none (some k)).map D.int))) g := fun ρ g k h => by
    rw [sl1 ns ρ g k (varD 0) (by simp [h]), cut_map]
  have e3 : compC (seqI (slD (varD 0) (noO) (someO (cD (.int 63))))) [2] (nameG 2) bigT bigE [some (.d (.scr ns)), some (.d (.int t)), z] [] = .ok (.c 0) [.lst (cs.map D.int)] := by
    unfold compC seqI
    rw [s1 _ _ _ rfl]
    simp only [R.bind_ok, itemsD, wipeE_cons, wipeE_nil]
    have e2' : compL ([] : G).length (nameG 2) bigT bigE ([some (.d (.scr ns)), some (.d (.int t)), z].set 2 none) ((cutL ns none (some 63)).map D.int) ([] ++ [.lst []]) = some ([] ++ [.lst (cs.map D.int)]) := e2
    rw [e2']
    rfl
  unfold poolF defC poolS
  simp [s1, sumD, forS, e, e3, tapD, tpSplit, intsD_map]
end DL
/-! DLSK: reckoning with sortK. -/
namespace DLS
open PySem PySem.Spec PyProof.Rows PySem.W DL
/-- two lists with the same members, all alike, are sorted alike -/
theorem sortK_ext {ks ls : List NK} (al : ∀ a ∈ ks, ∀ b ∈ ks, alike (pyK a) (pyK b) = true) (same : ∀ k, k ∈ ks ↔ k ∈ ls) : sortK ks = sortK ls := by
  refine List.Perm.eq_of_pairwise (le := fun a b => leK a b = true) (fun a b ha hb h1 h2 => ?_) (sorted_sortK _) (sorted_sortK _) ?_
  · exact leK_anti (al a ((mem_sortK _ _).mp ha) b ((same b).mpr ((mem_sortK _ _).mp hb))) h1 h2
  · refine (List.perm_ext_iff_of_nodup (nodup_sortK _) (nodup_sortK _)).mpr fun k => ?_
    rw [mem_sortK, mem_sortK]
    exact same k
theorem len_dedup : ∀ ks : List NK, (dedupK ks).length ≤ ks.length
  | [] => Nat.le_refl _
  | k :: ks => by
    rw [dedupK]
    have := len_dedup ks
    by_cases h : k ∈ dedupK ks
    · rw [if_pos h]; simp only [List.length_cons]; omega
    · rw [if_neg h]; simp only [List.length_cons]; omega
theorem len_sortK (ks : List NK) : (sortK ks).length ≤ ks.length := by
  unfold sortK
  rw [List.length_mergeSort]
  exact len_dedup ks
/-- one behind another, strictly -/
theorem sortK_strict {ks : List NK} (al : ∀ a ∈ ks, ∀ b ∈ ks, alike (pyK a) (pyK b) = true) : (sortK ks).Pairwise (fun a b => dataLt (pyK a) (pyK b) = true) := by
  refine List.Pairwise.imp_of_mem (fun {a b} ha hb h => ?_) ((sorted_sortK ks).and (nodup_sortK ks))
  obtain ⟨h1, h2⟩ := h
  cases q : dataLt (pyK a) (pyK b) with
  | true => rfl
  | false => exact absurd (leK_anti (al a ((mem_sortK _ _).mp ha) b ((mem_sortK _ _).mp hb)) h1 (by unfold leK; rw [q]; rfl)) h2
end DLS
/-! DLI: isinstance of plain data, once for all laws. -/
namespace DL
open PySem PySem.Spec L2
@[simp] theorem isi_int_non (c : Addr → Bool) (g : G) : isiS c [.d .non, .d (.typ "int")] g = .ok (.d (.bl false)) g := rfl
@[simp] theorem isi_int_bl (c : Addr → Bool) {b : Bool} (g : G) : isiS c [.d (.bl b), .d (.typ "int")] g = .ok (.d (.bl true)) g := rfl
@[simp] theorem isi_int_int (c : Addr → Bool) {i : Int} (g : G) : isiS c [.d (.int i), .d (.typ "int")] g = .ok (.d (.bl true)) g := rfl
@[simp] theorem isi_int_str (c : Addr → Bool) {x : Str} (g : G) : isiS c [.d (.str x), .d (.typ "int")] g = .ok (.d (.bl false)) g := rfl
@[simp] theorem isi_int_tup (c : Addr → Bool) {ds : List D} (g : G) : isiS c [.d (.tup ds), .d (.typ "int")] g = .ok (.d (.bl false)) g := rfl
@[simp] theorem isi_int_lst (c : Addr → Bool) {ds : List D} (g : G) : isiS c [.d (.lst ds), .d (.typ "int")] g = .ok (.d (.bl false)) g := rfl
@[simp] theorem isi_int_scr (c : Addr → Bool) {ns : List Int} (g : G) : isiS c [.d (.scr ns), .d (.typ "int")] g = .ok (.d (.bl false)) g := rfl
@[simp] theorem isi_int_ins (c : Addr → Bool) {C : Addr} {fs : List (Str × D)} (g : G) : isiS c [.d (.ins C fs), .d (.typ "int")] g = .ok (.d (.bl false)) g := rfl
@[simp] theorem isi_int_dct (c : Addr → Bool) {k : List (Key × D)} (g : G) : isiS c [.d (.dct k), .d (.typ "int")] g = .ok (.d (.bl false)) g := rfl
@[simp] theorem isi_bool_non (c : Addr → Bool) (g : G) : isiS c [.d .non, .d (.typ "bool")] g = .ok (.d (.bl false)) g := rfl
@[simp] theorem isi_bool_bl (c : Addr → Bool) {b : Bool} (g : G) : isiS c [.d (.bl b), .d (.typ "bool")] g = .ok (.d (.bl true)) g := rfl
@[simp] theorem isi_bool_int (c : Addr → Bool) {i : Int} (g : G) : isiS c [.d (.int i), .d (.typ "bool")] g = .ok (.d (.bl false)) g := rfl
@[simp] theorem isi_bool_str (c : Addr → Bool) {x : Str} (g : G) : isiS c [.d (.str x), .d (.typ "bool")] g = .ok (.d (.bl false)) g := rfl
@[simp] theorem isi_bool_tup (c : Addr → Bool) {ds : List D} (g : G) : isiS c [.d (.tup ds), .d (.typ "bool")] g = .ok (.d (.bl false)) g := rfl
@[simp] theorem isi_bool_lst (c : Addr → Bool) {ds : List D} (g : G) : isiS c [.d (.lst ds), .d (.typ "bool")] g = .ok (.d (.bl false)) g := rfl
@[simp] theorem isi_bool_scr (c : Addr → Bool) {ns : List Int} (g : G) : isiS c [.d (.scr ns), .d (.typ "bool")] g = .ok (.d (.bl false)) g := rfl
@[simp] theorem isi_bool_ins (c : Addr → Bool) {C : Addr} {fs : List (Str × D)} (g : G) : isiS c [.d (.ins C fs), .d (.typ "bool")] g = .ok (.d (.bl false)) g := rfl
@[simp] theorem isi_bool_dct (c : Addr → Bool) {k : List (Key × D)} (g : G) : isiS c [.d (.dct k), .d (.typ "bool")] g = .ok (.d (.bl false)) g := rfl
@[simp] theorem isi_tuple_non (c : Addr → Bool) (g : G) : isiS c [.d .non, .d (.typ "tuple")] g = .ok (.d (.bl false)) g := rfl
@[simp] theorem isi_tuple_bl (c : Addr → Bool) {b : Bool} (g : G) : isiS c [.d (.bl b), .d (.typ "tuple")] g = .ok (.d (.bl false)) g := rfl
@[simp] theorem isi_tuple_int (c : Addr → Bool) {i : Int} (g : G) : isiS c [.d (.int i), .d (.typ "tuple")] g = .ok (.d (.bl false)) g := rfl
@[simp] theorem isi_tuple_str (c : Addr → Bool) {x : Str} (g : G) : isiS c [.d (.str x), .d (.typ "tuple")] g = .ok (.d (.bl false)) g := rfl
@[simp] theorem isi_tuple_tup (c : Addr → Bool) {ds : List D} (g : G) : isiS c [.d (.tup ds), .d (.typ "tuple")] g = .ok (.d (.bl true)) g := rfl
@[simp] theorem isi_tuple_lst (c : Addr → Bool) {ds : List D} (g : G) : isiS c [.d (.lst ds), .d (.typ "tuple")] g = .ok (.d (.bl false)) g := rfl
@[simp] theorem isi_tuple_scr (c : Addr → Bool) {ns : List Int} (g : G) : isiS c [.d (.scr ns), .d (.typ "tuple")] g = .ok (.d (.bl false)) g := rfl
@[simp] theorem isi_tuple_ins (c : Addr → Bool) {C : Addr} {fs : List (Str × D)} (g : G) : isiS c [.d (.ins C fs), .d (.typ "tuple")] g = .ok (.d (.bl false)) g := rfl
@[simp] theorem isi_tuple_dct (c : Addr → Bool) {k : List (Key × D)} (g : G) : isiS c [.d (.dct k), .d (.typ "tuple")] g = .ok (.d (.bl false)) g := rfl
@[simp] theorem isi_list_non (c : Addr → Bool) (g : G) : isiS c [.d .non, .d (.typ "list")] g = .ok (.d (.bl false)) g := rfl
@[simp] theorem isi_list_bl (c : Addr → Bool) {b : Bool} (g : G) : isiS c [.d (.bl b), .d (.typ "list")] g = .ok (.d (.bl false)) g := rfl
@[simp] theorem isi_list_int (c : Addr → Bool) {i : Int} (g : G) : isiS c [.d (.int i), .d (.typ "list")] g = .ok (.d (.bl false)) g := rfl
@[simp] theorem isi_list_str (c : Addr → Bool) {x : Str} (g : G) : isiS c [.d (.str x), .d (.typ "list")] g = .ok (.d (.bl false)) g := rfl
@[simp] theorem isi_list_tup (c : Addr → Bool) {ds : List D} (g : G) : isiS c [.d (.tup ds), .d (.typ "list")] g = .ok (.d (.bl false)) g := rfl
@[simp] theorem isi_list_lst (c : Addr → Bool) {ds : List D} (g : G) : isiS c [.d (.lst ds), .d (.typ "list")] g = .ok (.d (.bl true)) g := rfl
@[simp] theorem isi_list_scr (c : Addr → Bool) {ns : List Int} (g : G) : isiS c [.d (.scr ns), .d (.typ "list")] g = .ok (.d (.bl true)) g := rfl
@[simp] theorem isi_list_ins (c : Addr → Bool) {C : Addr} {fs : List (Str × D)} (g : G) : isiS c [.d (.ins C fs), .d (.typ "list")] g = .ok (.d (.bl false)) g := rfl
@[simp] theorem isi_list_dct (c : Addr → Bool) {k : List (Key × D)} (g : G) : isiS c [.d (.dct k), .d (.typ "list")] g = .ok (.d (.bl false)) g := rfl
@[simp] theorem isi_str_non (c : Addr → Bool) (g : G) : isiS c [.d .non, .d (.typ "str")] g = .ok (.d (.bl false)) g := rfl
@[simp] theorem isi_str_bl (c : Addr → Bool) {b : Bool} (g : G) : isiS c [.d (.bl b), .d (.typ "str")] g = .ok (.d (.bl false)) g := rfl
@[simp] theorem isi_str_int (c : Addr → Bool) {i : Int} (g : G) : isiS c [.d (.int i), .d (.typ "str")] g = .ok (.d (.bl false)) g := rfl
@[simp] theorem isi_str_str (c : Addr → Bool) {x : Str} (g : G) : isiS c [.d (.str x), .d (.typ "str")] g = .ok (.d (.bl true)) g := rfl
@[simp] theorem isi_str_tup (c : Addr → Bool) {ds : List D} (g : G) : isiS c [.d (.tup ds), .d (.typ "str")] g = .ok (.d (.bl false)) g := rfl
@[simp] theorem isi_str_lst (c : Addr → Bool) {ds : List D} (g : G) : isiS c [.d (.lst ds), .d (.typ "str")] g = .ok (.d (.bl false)) g := rfl
@[simp] theorem isi_str_scr (c : Addr → Bool) {ns : List Int} (g : G) : isiS c [.d (.scr ns), .d (.typ "str")] g = .ok (.d (.bl false)) g := rfl
@[simp] theorem isi_str_ins (c : Addr → Bool) {C : Addr} {fs : List (Str × D)} (g : G) : isiS c [.d (.ins C fs), .d (.typ "str")] g = .ok (.d (.bl false)) g := rfl
@[simp] theorem isi_str_dct (c : Addr → Bool) {k : List (Key × D)} (g : G) : isiS c [.d (.dct k), .d (.typ "str")] g = .ok (.d (.bl false)) g := rfl
@[simp] theorem isi_dict_non (c : Addr → Bool) (g : G) : isiS c [.d .non, .d (.typ "dict")] g = .ok (.d (.bl false)) g := rfl
@[simp] theorem isi_dict_bl (c : Addr → Bool) {b : Bool} (g : G) : isiS c [.d (.bl b), .d (.typ "dict")] g = .ok (.d (.bl false)) g := rfl
@[simp] theorem isi_dict_int (c : Addr → Bool) {i : Int} (g : G) : isiS c [.d (.int i), .d (.typ "dict")] g = .ok (.d (.bl false)) g := rfl
@[simp] theorem isi_dict_str (c : Addr → Bool) {x : Str} (g : G) : isiS c [.d (.str x), .d (.typ "dict")] g = .ok (.d (.bl false)) g := rfl
@[simp] theorem isi_dict_tup (c : Addr → Bool) {ds : List D} (g : G) : isiS c [.d (.tup ds), .d (.typ "dict")] g = .ok (.d (.bl false)) g := rfl
@[simp] theorem isi_dict_lst (c : Addr → Bool) {ds : List D} (g : G) : isiS c [.d (.lst ds), .d (.typ "dict")] g = .ok (.d (.bl false)) g := rfl
@[simp] theorem isi_dict_scr (c : Addr → Bool) {ns : List Int} (g : G) : isiS c [.d (.scr ns), .d (.typ "dict")] g = .ok (.d (.bl false)) g := rfl
@[simp] theorem isi_dict_ins (c : Addr → Bool) {C : Addr} {fs : List (Str × D)} (g : G) : isiS c [.d (.ins C fs), .d (.typ "dict")] g = .ok (.d (.bl false)) g := rfl
@[simp] theorem isi_dict_dct (c : Addr → Bool) {k : List (Key × D)} (g : G) : isiS c [.d (.dct k), .d (.typ "dict")] g = .ok (.d (.bl true)) g := rfl
end DL
/-! DLW2: more reckoning with the functions: lists of a Lean type, comprehensions and loops with a memory. -/
namespace DL
open PySem PySem.Spec L2
theorem take_tk {p n : Nat} {g g' : G} (k : Tk p n g g') : g'.take g.length = g' := List.take_of_length_le (by rw [k.len]; exact Nat.le_refl _)
theorem Tk.app2 {p n : Nat} {g g1 : G} (k : Tk p n g g1) (h : p < g.length) (r : G) : Tk p n (g ++ r) (g1 ++ r) := by
  obtain ⟨c, hc, rfl⟩ := k
  exact ⟨c, hc, by rw [List.set_append_left _ _ h]⟩
theorem cutL_take {α : Type} (xs : List α) {v : Int} (h : 0 ≤ v) : cutL xs none (some v) = xs.take v.toNat := by
  unfold cutL HT.sIx
  simp only
  rw [if_neg (by omega), List.drop_zero, Nat.sub_zero]
  by_cases q : v.toNat ≤ xs.length
  · rw [Nat.min_eq_left q]
  · rw [Nat.min_eq_right (by omega), List.take_of_length_le (Nat.le_refl _), List.take_of_length_le (by omega)]
theorem cutL_drop {α : Type} (xs : List α) {v : Int} (h : 0 ≤ v) : cutL xs (some v) none = xs.drop v.toNat := by
  unfold cutL HT.sIx
  simp only
  rw [if_neg (by omega)]
  by_cases q : v.toNat ≤ xs.length
  · rw [Nat.min_eq_left q, List.take_of_length_le (by rw [List.length_drop]; omega)]
  · rw [Nat.min_eq_right (by omega), List.drop_of_length_le (Nat.le_refl _), List.drop_of_length_le (by omega)]; simp
theorem add_tup (xs ys : List D) (g : G) (h : xs.length + ys.length ≤ 10000000) : addS (.d (.tup xs)) (.d (.tup ys)) g = .ok (.d (.tup (xs ++ ys))) g := by
  unfold addS
  simp only
  rw [if_pos h]
theorem atI_get {α : Type} (xs : List α) {v : Int} (h0 : 0 ≤ v) (h1 : v < xs.length) : atI xs v = xs[v.toNat]? := by
  unfold atI ixN
  rw [if_pos h0, if_pos h1]
  rfl
theorem readL_app {g r : G} {s : S} {ds : List D} (h : readL g s = some ds) : readL (g ++ r) s = some ds := by
  cases s with
  | d x => exact h
  | c n =>
    unfold readL at h ⊢
    dsimp only at h ⊢
    cases q : g[n]? with
    | none => rw [q] at h; cases h
    | some c => rw [List.getElem?_append_left (List.getElem?_eq_some_iff.mp q).1, q]; rw [q] at h; exact h
  | i n =>
    unfold readL at h ⊢
    dsimp only at h ⊢
    cases q : g[n]? with
    | none => rw [q] at h; cases h
    | some c => rw [List.getElem?_append_left (List.getElem?_eq_some_iff.mp q).1, q]; rw [q] at h; exact h
/-- an item of a row of a Lean type -/
theorem ix_map {α : Type} [Inhabited α] (en : α → D) (as : List α) {i : Int} (h0 : 0 ≤ i) (h1 : i < as.length) (g : G) (tup : Bool) : ixS (.d (if tup then .tup (as.map en) else .lst (as.map en))) (.d (.int i)) g = .ok (.d (en (as.getD i.toNat default))) g := by
  have hlt : i.toNat < as.length := by omega
  have e : atI (as.map en) i = some (en (as.getD i.toNat default)) := by
    rw [atI_get _ h0 (by rw [List.length_map]; exact h1), List.getElem?_map, List.getElem?_eq_getElem hlt, List.getD_eq_getElem?_getD, List.getElem?_eq_getElem hlt]
    rfl
  cases tup
  · show (match atI (as.map en) i with | some x => DL.R.ok (S.d x) g | none => DL.R.bad) = _
    rw [e]
  · show (match atI (as.map en) i with | some x => DL.R.ok (S.d x) g | none => DL.R.bad) = _
    rw [e]
theorem ix_tup {α : Type} [Inhabited α] (en : α → D) (as : List α) {i : Int} (h0 : 0 ≤ i) (h1 : i < as.length) (g : G) : ixS (.d (.tup (as.map en))) (.d (.int i)) g = .ok (.d (en (as.getD i.toNat default))) g := ix_map en as h0 h1 g true
theorem ix_lst {α : Type} [Inhabited α] (en : α → D) (as : List α) {i : Int} (h0 : 0 ≤ i) (h1 : i < as.length) (g : G) : ixS (.d (.lst (as.map en))) (.d (.int i)) g = .ok (.d (en (as.getD i.toNat default))) g := ix_map en as h0 h1 g false
/-! ### comprehensions over a row of a Lean type -/
theorem compL_T {α : Type} (en f : α → D) (h : DG) (t : DE Bool) (el : DE S) (ρ : Env) (g : G) : ∀ (as : List α) (acc : List D),
    (∀ a ∈ as, ∀ acc, ∃ ρ1, h (.d (en a)) ρ = some ρ1 ∧ t ρ1 (g ++ [.lst acc]) = .ok true (g ++ [.lst acc]) ∧ el ρ1 (g ++ [.lst acc]) = .ok (.d (f a)) (g ++ [.lst acc])) → acc.length + as.length ≤ 10000000 →
    compL g.length h t el ρ (as.map en) (g ++ [.lst acc]) = some (g ++ [.lst (acc ++ as.map f)])
  | [], acc, _, _ => by simp [compL]
  | a :: as, acc, hs, hl => by
    obtain ⟨ρ1, h1, h2, h3⟩ := hs a List.mem_cons_self acc
    rw [List.map_cons]
    unfold compL
    rw [h1]; dsimp only
    rw [h2]; dsimp only
    rw [h3]; dsimp only
    rw [app_get]; dsimp only
    rw [List.length_cons] at hl
    rw [if_pos (by omega), app_set, compL_T en f h t el ρ g as (acc ++ [f a]) (fun e he => hs e (List.mem_cons_of_mem _ he)) (by rw [List.length_append]; simp; omega)]
    simp
theorem compD_T {α : Type} {it : DE (List D)} {vs : List Nat} {h : DG} {t : DE Bool} {el : DE S} {ρ : Env} {g g1 : G} {as : List α} (en f : α → D) (hi : it ρ g = .ok (as.map en) g1)
    (hs : ∀ a ∈ as, ∀ acc, ∃ ρ1, h (.d (en a)) (wipeE ρ vs) = some ρ1 ∧ t ρ1 (g1 ++ [.lst acc]) = .ok true (g1 ++ [.lst acc]) ∧ el ρ1 (g1 ++ [.lst acc]) = .ok (.d (f a)) (g1 ++ [.lst acc])) (hl : as.length ≤ 10000000) :
    compD it vs h t el ρ g = .ok (.d (.lst (as.map f))) g1 := by
  unfold compD
  rw [hi]
  dsimp only [R.bind_ok]
  rw [compL_T en f h t el (wipeE ρ vs) g1 as [] hs (by simpa using hl)]
  simp
/-- .. with a test -/
theorem compL_F {α : Type} (en f : α → D) (b : α → Bool) (h : DG) (t : DE Bool) (el : DE S) (ρ : Env) (g : G) : ∀ (as : List α) (acc : List D),
    (∀ a ∈ as, ∀ acc, ∃ ρ1, h (.d (en a)) ρ = some ρ1 ∧ t ρ1 (g ++ [.lst acc]) = .ok (b a) (g ++ [.lst acc]) ∧ (b a = true → el ρ1 (g ++ [.lst acc]) = .ok (.d (f a)) (g ++ [.lst acc]))) → acc.length + as.length ≤ 10000000 →
    compL g.length h t el ρ (as.map en) (g ++ [.lst acc]) = some (g ++ [.lst (acc ++ (as.filter b).map f)])
  | [], acc, _, _ => by simp [compL]
  | a :: as, acc, hs, hl => by
    obtain ⟨ρ1, h1, h2, h3⟩ := hs a List.mem_cons_self acc
    rw [List.map_cons]
    unfold compL
    rw [h1]; dsimp only
    rw [h2]
    rw [List.length_cons] at hl
    cases hb : b a with
    | true =>
      dsimp only
      rw [h3 hb]; dsimp only
      rw [app_get]; dsimp only
      rw [if_pos (by omega), app_set, compL_F en f b h t el ρ g as (acc ++ [f a]) (fun e he => hs e (List.mem_cons_of_mem _ he)) (by rw [List.length_append]; simp; omega)]
      simp [hb]
    | false =>
      dsimp only
      rw [compL_F en f b h t el ρ g as acc (fun e he => hs e (List.mem_cons_of_mem _ he)) (by omega)]
      simp [hb]
theorem compD_F {α : Type} {it : DE (List D)} {vs : List Nat} {h : DG} {t : DE Bool} {el : DE S} {ρ : Env} {g g1 : G} {as : List α} (en f : α → D) (b : α → Bool) (hi : it ρ g = .ok (as.map en) g1)
    (hs : ∀ a ∈ as, ∀ acc, ∃ ρ1, h (.d (en a)) (wipeE ρ vs) = some ρ1 ∧ t ρ1 (g1 ++ [.lst acc]) = .ok (b a) (g1 ++ [.lst acc]) ∧ (b a = true → el ρ1 (g1 ++ [.lst acc]) = .ok (.d (f a)) (g1 ++ [.lst acc]))) (hl : as.length ≤ 10000000) :
    compD it vs h t el ρ g = .ok (.d (.lst ((as.filter b).map f))) g1 := by
  unfold compD
  rw [hi]
  dsimp only [R.bind_ok]
  rw [compL_F en f b h t el (wipeE ρ vs) g1 as [] hs (by simpa using hl)]
  simp
/-- items that step the state on; I k acc g: k items are to come, acc is there -/
theorem compL_acc (h : DG) (t : DE Bool) (el : DE S) (ρ : Env) (I : Nat → List D → G → Prop) : ∀ (ds acc : List D) (g : G) (n : Nat), g.length = n → I ds.length acc g →
    (∀ d ∈ ds, ∀ k acc g, g.length = n → I (k + 1) acc g → ∃ ρ1 x g', h (.d d) ρ = some ρ1 ∧ t ρ1 (g ++ [.lst acc]) = .ok true (g ++ [.lst acc]) ∧ el ρ1 (g ++ [.lst acc]) = .ok (.d x) (g' ++ [.lst acc]) ∧ g'.length = n ∧ I k (acc ++ [x]) g') → acc.length + ds.length ≤ 10000000 →
    ∃ g' xs, compL n h t el ρ ds (g ++ [.lst acc]) = some (g' ++ [.lst xs]) ∧ g'.length = n ∧ xs.length = acc.length + ds.length ∧ I 0 xs g'
  | [], acc, g, n, hn, hi, _, _ => ⟨g, acc, by simp [compL], hn, by simp, hi⟩
  | d :: ds, acc, g, n, hn, hi, hs, hl => by
    obtain ⟨ρ1, x, g', h1, h2, h3, h4, h5⟩ := hs d List.mem_cons_self ds.length acc g hn hi
    rw [List.length_cons] at hl
    obtain ⟨g2, xs, e, q1, q2, q3⟩ := compL_acc h t el ρ I ds (acc ++ [x]) g' n h4 h5 (fun e he => hs e (List.mem_cons_of_mem _ he)) (by rw [List.length_append]; simp; omega)
    refine ⟨g2, xs, ?_, q1, by rw [q2]; simp; omega, q3⟩
    unfold compL
    rw [h1]; dsimp only
    rw [h2]; dsimp only
    rw [h3]; dsimp only
    subst hn
    rw [← h4, app_get]; dsimp only
    rw [if_pos (by omega), app_set, h4]
    exact e
theorem compD_acc {it : DE (List D)} {vs : List Nat} {h : DG} {t : DE Bool} {el : DE S} {ρ : Env} {g g1 : G} {ds : List D} (I : Nat → List D → G → Prop) (hi : it ρ g = .ok ds g1) (h0 : I ds.length [] g1)
    (hs : ∀ d ∈ ds, ∀ k acc g, g.length = g1.length → I (k + 1) acc g → ∃ ρ1 x g', h (.d d) (wipeE ρ vs) = some ρ1 ∧ t ρ1 (g ++ [.lst acc]) = .ok true (g ++ [.lst acc]) ∧ el ρ1 (g ++ [.lst acc]) = .ok (.d x) (g' ++ [.lst acc]) ∧ g'.length = g1.length ∧ I k (acc ++ [x]) g') (hl : ds.length ≤ 10000000) :
    ∃ xs g', compD it vs h t el ρ g = .ok (.d (.lst xs)) g' ∧ g'.length = g1.length ∧ xs.length = ds.length ∧ I 0 xs g' := by
  obtain ⟨g', xs, e, q1, q2, q3⟩ := compL_acc h t el (wipeE ρ vs) I ds [] g1 g1.length rfl h0 hs (by simpa using hl)
  refine ⟨xs, g', ?_, q1, by simpa using q2, q3⟩
  unfold compD
  rw [hi]
  dsimp only [R.bind_ok]
  rw [e]
  dsimp only
  rw [← q1, app_get]
  dsimp only
  rw [app_take]
/-! ### loops over a row of a Lean type -/
theorem loopS_T {α : Type} (en : α → D) (h : DG) (body : DS) (I : List α → Env → G → Prop) (N : Nat) : ∀ (as dn : List α) (ρ : Env) (g : G), dn.length + as.length ≤ N → I dn ρ g →
    (∀ a ∈ as, ∀ dn ρ g, dn.length < N → I dn ρ g → ∃ ρ1 ρ2 g2, h (.d (en a)) ρ = some ρ1 ∧ body ρ1 g = .nx ρ2 g2 ∧ I (dn ++ [a]) ρ2 g2) →
    ∃ ρ2 g2, loopS h body (as.map en) ρ g = .nx ρ2 g2 ∧ I (dn ++ as) ρ2 g2
  | [], dn, ρ, g, _, hi, _ => ⟨ρ, g, rfl, by simpa using hi⟩
  | a :: as, dn, ρ, g, hN, hi, hs => by
    rw [List.length_cons] at hN
    obtain ⟨ρ1, ρ2, g2, h1, h2, h3⟩ := hs a List.mem_cons_self dn ρ g (by omega) hi
    obtain ⟨ρ3, g3, e, h4⟩ := loopS_T en h body I N as (dn ++ [a]) ρ2 g2 (by rw [List.length_append]; simp; omega) h3 fun e he => hs e (List.mem_cons_of_mem _ he)
    refine ⟨ρ3, g3, ?_, by simpa using h4⟩
    rw [List.map_cons]
    unfold loopS
    rw [h1]
    dsimp only
    rw [h2]
    exact e
theorem app_ok {g : G} {acc : List D} {x : D} (h : acc.length < 10000000) : appS (.c g.length) [.d x] (g ++ [.lst acc]) = .ok (.d .non) (g ++ [.lst (acc ++ [x])]) := by
  unfold appS
  dsimp only
  rw [app_get]
  dsimp only
  rw [if_pos h, app_set]
theorem all_true {α : Type} (l : List α) : allF (.lst (l.map fun _ => D.bl true)) = some (.bl true) := by
  have e : (l.map fun _ => D.bl true) = (l.map fun _ => true).map D.bl := by rw [List.map_map]; rfl
  rw [e]
  show (blsL ((l.map fun _ => true).map D.bl)).map _ = _
  rw [blsL_map]
  simp
theorem eqF_ints (a b : List Int) : eqF (.lst (a.map .int)) (.lst (b.map .int)) = some (decide (a = b)) := eqF_enc (α := List Int) (by decide) a b
theorem eqF_tints (a b : List Int) : eqF (.tup (a.map .int)) (.tup (b.map .int)) = some (decide (a = b)) := by
  have h := eqF_enc (α := PySem.W.Tup Int) (by decide) ⟨a⟩ ⟨b⟩
  have e : ∀ a : List Int, enc (α := PySem.W.Tup Int) ⟨a⟩ = .tup (a.map .int) := fun a => rfl
  rw [e, e] at h
  rw [h]
  congr 1
  exact decide_eq_decide.mpr ⟨fun z => by injection z, fun z => by rw [z]⟩
/-! ### steps, one by one -/
theorem seq_skip {t : DE Bool} {k b : DS} {ρ : Env} {g : G} (h : t ρ g = .ok false g) : seqS (ifS t k nextS) b ρ g = b ρ g := by
  show ((t ρ g).toO ρ fun (c : Bool) g1 => if c then k ρ g1 else nextS ρ g1).thn b = _
  rw [h]
  rfl
theorem seq_go {a b : DS} {ρ ρ' : Env} {g g' : G} (h : a ρ g = .nx ρ' g') : seqS a b ρ g = b ρ' g' := by
  show (a ρ g).thn b = _
  rw [h]
  rfl
theorem seq_rt {t : DE Bool} {k b : DS} {ρ : Env} {s : S} {g g1 g' : G} (h : t ρ g = .ok true g1) (hk : k ρ g1 = .rt s g') : seqS (ifS t k nextS) b ρ g = .rt s g' := by
  show ((t ρ g).toO ρ fun (c : Bool) g1 => if c then k ρ g1 else nextS ρ g1).thn b = _
  rw [h]
  show (k ρ g1).thn b = _
  rw [hk]
  rfl
theorem asg_go {i : Nat} {f : DE S} {ρ : Env} {g g' : G} {s : S} (h : f ρ g = .ok s g') : asgS i f ρ g = .nx (ρ.set i (some s)) g' := by
  show (f ρ g).toO ρ _ = _
  rw [h]
  rfl
theorem ret_go {f : DE S} {ρ : Env} {g g' : G} {s : S} (h : f ρ g = .ok s g') : retS f ρ g = .rt s g' := by
  show (f ρ g).toO ρ _ = _
  rw [h]
  rfl
theorem for_go {it : DE (List D)} {h : DG} {body : DS} {ρ : Env} {g g1 : G} {ds : List D} {o : O} (hi : it ρ g = .ok ds g1) (hl : loopS h body ds ρ g1 = o) : forS it h body ρ g = o := by
  unfold forS
  rw [hi]
  exact hl
theorem defD_rt {N : Nat} {body : DS} {ss : List S} {g g' : G} {s : S} (h : body (ss.map some ++ List.replicate (N - ss.length) none) g = .rt s g') : defD N body ss g = finD g.length s g' := by
  unfold defD
  rw [h]
theorem defD_rt0 {N : Nat} {body : DS} {ss : List S} {g : G} {d : D} (h : body (ss.map some ++ List.replicate (N - ss.length) none) g = .rt (.d d) g) : defD N body ss g = .ok (.d d) g := by
  rw [defD_rt h]
  unfold finD
  dsimp only
  rw [List.take_of_length_le (Nat.le_refl _)]
end DL
/-! SH: functions that many laws share. -/
namespace SH
open PySem PySem.Spec DL
structure Ad where
  Program : Addr
  BadProgram : Addr
  Task : Addr
  BadTask : Addr
  TurnError : Addr
  NoNames : Addr
  NoMatrix : Addr
  NoNumber : Addr
  NoLot : Addr
  NoReading : Addr
  OtherSides : Addr
  BadText : Addr
  NoLog : Addr
  NoTable : Addr
  TooMany : Addr
  NoWorld : Addr
  NoBox : Addr
  NoPoint : Addr
  NotWorking : Addr
  NothingDone : Addr
  NoName : Addr
  NoLine : Addr
  Summary : Addr
  isC : Addr → Bool
noncomputable def d__law_some (A : Ad) : DS :=
  retS (bin2 (varD 1) (callD (drawF) (consL (varD 0) (consL (cbD (un1 lenD) (consL (varD 1) (nilL))) (nilL)))) ixS)
noncomputable def phi__law_some (A : Ad) : DF := defD 2 (d__law_some A)
noncomputable def d__law_step_c1e (A : Ad) : DE S :=
  callD (phi__law_some A) (consL (varD 0) (consL (lstD (consL (un1D negS (bin2 (cD (.int 10)) (cD (.int 12)) (opD powD))) (consL (bin2 (cD (.int 10)) (cD (.int 12)) (opD powD)) (consL (bin2 (cD (.int 7)) (bin2 (cD (.int 10)) (cD (.int 11)) (opD powD)) (opD subD)) (consL (cD (.int 0)) (consL (cD (.int 1)) (nilL))))))) (nilL)))
noncomputable def d__law_step_c1 (A : Ad) : DE S :=
  compD (range1 (consL (varD 1) (nilL))) [3] (nameG 3) (yesB) (d__law_step_c1e A)
noncomputable def d__law_step_c3e (A : Ad) : DE S :=
  bin2 (callD (drawF) (consL (varD 0) (consL (cD (.int 5)) (nilL)))) (cD (.int 2)) (opD subD)
noncomputable def d__law_step_c3 (A : Ad) : DE S :=
  compD (range1 (consL (varD 1) (nilL))) [3] (nameG 3) (yesB) (d__law_step_c3e A)
noncomputable def d__law_step (A : Ad) : DS :=
  seqS (asgS 2 (callD (drawF) (consL (varD 0) (consL (cD (.int 6)) (nilL))))) (seqS (ifS (asB (bin2 (varD 2) (cD (.int 0)) (opD eqD))) (retS (bin2 (tupD (consL (cD (.int 0)) (nilL))) (varD 1) mulS)) (nextS)) (seqS (ifS (asB (bin2 (varD 2) (cD (.int 1)) (opD eqD))) (retS (cbD (tupC) (consL (d__law_step_c1 A) (nilL)))) (nextS)) (retS (cbD (tupC) (consL (d__law_step_c3 A) (nilL))))))
noncomputable def phi__law_step (A : Ad) : DF := defD 4 (d__law_step A)
noncomputable def d__law_parts_b1 (A : Ad) : DS :=
  exprS (mthL appS (varD 3) (consL (tupD (consL (callD (drawF) (consL (varD 0) (consL (varD 2) (nilL)))) (consL (callD (drawF) (consL (varD 0) (consL (varD 2) (nilL)))) (consL (callD (phi__law_step A) (consL (varD 0) (consL (varD 1) (nilL)))) (nilL))))) (nilL)))
noncomputable def d__law_parts (A : Ad) : DS :=
  seqS (asgS 1 (bin2 (cD (.int 1)) (callD (drawF) (consL (varD 0) (consL (cD (.int 4)) (nilL)))) addS)) (seqS (asgS 2 (bin2 (cD (.int 1)) (callD (phi__law_some A) (consL (varD 0) (consL (lstD (consL (cD (.int 0)) (consL (cD (.int 0)) (consL (cD (.int 1)) (consL (cD (.int 1)) (consL (cD (.int 2)) (consL (cD (.int 3)) (consL (cD (.int 7)) (nilL))))))))) (nilL)))) addS)) (seqS (asgS 3 (celD (nilL))) (seqS (forS (range1 (consL (callD (phi__law_some A) (consL (varD 0) (consL (lstD (consL (cD (.int 0)) (consL (cD (.int 1)) (consL (cD (.int 2)) (consL (cD (.int 3)) (consL (cD (.int 4)) (consL (cD (.int 5)) (consL (cD (.int 6)) (consL (cD (.int 24)) (nilL)))))))))) (nilL)))) (nilL))) (nameG 4) (d__law_parts_b1 A)) (retS (tupD (consL (varD 1) (consL (varD 2) (consL (cbD (tupC) (consL (DLS.sortSetD (varD 3)) (nilL))) (nilL)))))))))
noncomputable def phi__law_parts (A : Ad) : DF := defD 5 (d__law_parts A)
noncomputable def d_is_integer (A : Ad) : DS :=
  retS (andV (cbD (isiS A.isC) (consL (varD 0) (consL (cD (.typ "int")) (nilL)))) (notV (cbD (isiS A.isC) (consL (varD 0) (consL (cD (.typ "bool")) (nilL))))))
noncomputable def phi_is_integer (A : Ad) : DF := defD 1 (d_is_integer A)
noncomputable def d_is_within (A : Ad) : DS :=
  retS (andV (callD (phi_is_integer A) (consL (varD 0) (nilL))) (chD (opD leD) (opD leD) (varD 1) (varD 0) (varD 2)))
noncomputable def phi_is_within (A : Ad) : DF := defD 3 (d_is_within A)
noncomputable def d_is_triple (A : Ad) : DS :=
  retS (andV (cbD (isiS A.isC) (consL (varD 0) (consL (cD (.typ "tuple")) (nilL)))) (bin2 (cbD (un1 lenD) (consL (varD 0) (nilL))) (cD (.int 3)) (opD eqD)))
noncomputable def phi_is_triple (A : Ad) : DF := defD 1 (d_is_triple A)
noncomputable def d_are_integers_c1e (A : Ad) : DE S :=
  callD (phi_is_integer A) (consL (varD 2) (nilL))
noncomputable def d_are_integers_c1 (A : Ad) : DE S :=
  compD (seqI (varD 0)) [2] (nameG 2) (yesB) (d_are_integers_c1e A)
noncomputable def d_are_integers (A : Ad) : DS :=
  retS (andV (cbD (isiS A.isC) (consL (varD 0) (consL (cD (.typ "tuple")) (nilL)))) (andV (bin2 (cbD (un1 lenD) (consL (varD 0) (nilL))) (varD 1) (opD eqD)) (cbD (un1 allF) (consL (d_are_integers_c1 A) (nilL)))))
noncomputable def phi_are_integers (A : Ad) : DF := defD 3 (d_are_integers A)
noncomputable def d_are_within_c1e (A : Ad) : DE S :=
  chD (opD leD) (opD leD) (varD 2) (varD 4) (varD 3)
noncomputable def d_are_within_c1 (A : Ad) : DE S :=
  compD (seqI (varD 0)) [4] (nameG 4) (yesB) (d_are_within_c1e A)
noncomputable def d_are_within (A : Ad) : DS :=
  retS (andV (callD (phi_are_integers A) (consL (varD 0) (consL (varD 1) (nilL)))) (cbD (un1 allF) (consL (d_are_within_c1 A) (nilL))))
noncomputable def phi_are_within (A : Ad) : DF := defD 5 (d_are_within A)
noncomputable def d_is_reading (A : Ad) : DS :=
  seqS (ifS (orB (notB (asB (callD (phi_is_triple A) (consL (varD 2) (nilL))))) (orB (notB (asB (callD (phi_is_within A) (consL (bin2 (varD 2) (cD (.int 0)) ixS) (consL (cD (.int 0)) (consL (bin2 (varD 1) (cD (.int 1)) (opD subD)) (nilL))))))) (notB (asB (callD (phi_is_within A) (consL (bin2 (varD 2) (cD (.int 1)) ixS) (consL (cD (.int 0)) (consL (bin2 (varD 1) (cD (.int 1)) (opD subD)) (nilL))))))))) (retS (cD (.bl false))) (nextS)) (retS (callD (phi_are_within A) (consL (bin2 (varD 2) (cD (.int 2)) ixS) (consL (varD 0) (consL (un1D negS (cD (.int 1000000000000))) (consL (cD (.int 1000000000000)) (nilL)))))))
noncomputable def phi_is_reading (A : Ad) : DF := defD 3 (d_is_reading A)
noncomputable def d_Program_keep (A : Ad) : DS :=
  seqS (sfldS A.Program "sides" (varD 0) (varD 1)) (seqS (sfldS A.Program "tables" (varD 0) (varD 2)) (sfldS A.Program "readings" (varD 0) (varD 3)))
noncomputable def phi_Program_keep (A : Ad) : DF := defD 4 (d_Program_keep A)
noncomputable def d_Program___init___b1 (A : Ad) : DS :=
  ifS (orB (notB (asB (callD (phi_is_reading A) (consL (varD 1) (consL (varD 2) (consL (varD 5) (nilL))))))) (andB (asB (bin2 (varD 4) (cD (.int 0)) (opD gtD))) (asB (bin2 (varD 5) (bin2 (varD 3) (bin2 (varD 4) (cD (.int 1)) (opD subD)) ixS) (opD leX))))) (raise1 A.BadProgram "part" (varD 4)) (nextS)
noncomputable def d_Program___init__ (A : Ad) : DS :=
  seqS (ifS (notB (asB (callD (phi_is_within A) (consL (varD 1) (consL (cD (.int 1)) (consL (cD (.int 4)) (nilL))))))) (raise1 A.BadProgram "part" (cD (.str "sides"))) (nextS)) (seqS (ifS (notB (asB (callD (phi_is_within A) (consL (varD 2) (consL (cD (.int 1)) (consL (cD (.int 8)) (nilL))))))) (raise1 A.BadProgram "part" (cD (.str "tables"))) (nextS)) (seqS (ifS (orB (notB (asB (cbD (isiS A.isC) (consL (varD 3) (consL (cD (.typ "tuple")) (nilL)))))) (asB (bin2 (cbD (un1 lenD) (consL (varD 3) (nilL))) (cD (.int 24)) (opD gtD)))) (raise1 A.BadProgram "part" (cD (.str "readings"))) (nextS)) (seqS (forS (enumI (consL (varD 3) (nilL))) (tupG 2 (consG (nameG 4) (consG (nameG 5) (nilG)))) (d_Program___init___b1 A)) (exprS (methF A.Program "keep" (phi_Program_keep A) (varD 0) (consL (varD 1) (consL (varD 2) (consL (varD 3) (nilL)))))))))
noncomputable def phi_Program___init__ (A : Ad) : DF := defD 6 (d_Program___init__ A)
noncomputable def d__law_program (A : Ad) : DS :=
  retS (frzD (makeC A.Program (phi_Program___init__ A) (consL (bin2 (varD 0) (cD (.int 0)) ixS) (consL (bin2 (varD 0) (cD (.int 1)) ixS) (consL (bin2 (varD 0) (cD (.int 2)) ixS) (nilL))))))
noncomputable def phi__law_program (A : Ad) : DF := defD 1 (d__law_program A)
noncomputable def d__law_mixed_c1e (A : Ad) : DE S :=
  mthL popIS (varD 2) (consL (callD (drawF) (consL (varD 0) (consL (cbD (un1 lenD) (consL (varD 2) (nilL))) (nilL)))) (nilL))
noncomputable def d__law_mixed_c1 (A : Ad) : DE S :=
  compD (range1 (consL (cbD (un1 lenD) (consL (varD 1) (nilL))) (nilL))) [3] (nameG 3) (yesB) (d__law_mixed_c1e A)
noncomputable def d__law_mixed (A : Ad) : DS :=
  seqS (asgS 2 (cbD lstCC (consL (varD 1) (nilL)))) (retS (d__law_mixed_c1 A))
noncomputable def phi__law_mixed (A : Ad) : DF := defD 4 (d__law_mixed A)
noncomputable def d__law_integer (A : Ad) : DS :=
  retS (andV (cbD (isiS A.isC) (consL (varD 0) (consL (cD (.typ "int")) (nilL)))) (notV (cbD (isiS A.isC) (consL (varD 0) (consL (cD (.typ "bool")) (nilL))))))
noncomputable def phi__law_integer (A : Ad) : DF := defD 1 (d__law_integer A)
noncomputable def d__law_same_b1 (A : Ad) (psi : DF) : DS :=
  ifS (notB (asB (callD psi (consL (bin2 (varD 0) (varD 2) ixS) (consL (bin2 (varD 1) (varD 2) ixS) (nilL)))))) (retS (cD (.bl false))) (nextS)
noncomputable def d__law_same (A : Ad) (psi : DF) : DS :=
  seqS (ifS (asB (bin2 (varD 1) (cD .non) (isNF false))) (retS (bin2 (varD 0) (cD .non) (isNF false))) (nextS)) (seqS (ifS (asB (cbD (isiS A.isC) (consL (varD 1) (consL (cD (.typ "bool")) (nilL))))) (retS (andV (cbD (isiS A.isC) (consL (varD 0) (consL (cD (.typ "bool")) (nilL)))) (bin2 (varD 0) (varD 1) (opD eqD)))) (nextS)) (seqS (ifS (asB (cbD (isiS A.isC) (consL (varD 1) (consL (cD (.typ "int")) (nilL))))) (retS (andV (callD (phi__law_integer A) (consL (varD 0) (nilL))) (bin2 (varD 0) (varD 1) (opD eqD)))) (nextS)) (seqS (ifS (asB (cbD (isiS A.isC) (consL (varD 1) (consL (cD (.typ "str")) (nilL))))) (retS (andV (cbD (isiS A.isC) (consL (varD 0) (consL (cD (.typ "str")) (nilL)))) (bin2 (varD 0) (varD 1) (opD eqD)))) (nextS)) (seqS (ifS (andB (asB (cbD (isiS A.isC) (consL (varD 1) (consL (cD (.typ "tuple")) (nilL))))) (notB (asB (cbD (isiS A.isC) (consL (varD 0) (consL (cD (.typ "tuple")) (nilL))))))) (retS (cD (.bl false))) (nextS)) (seqS (ifS (andB (asB (cbD (isiS A.isC) (consL (varD 1) (consL (cD (.typ "list")) (nilL))))) (notB (asB (cbD (isiS A.isC) (consL (varD 0) (consL (cD (.typ "list")) (nilL))))))) (retS (cD (.bl false))) (nextS)) (seqS (ifS (asB (bin2 (cbD (un1 lenD) (consL (varD 0) (nilL))) (cbD (un1 lenD) (consL (varD 1) (nilL))) (opD neD))) (retS (cD (.bl false))) (nextS)) (seqS (forS (range1 (consL (cbD (un1 lenD) (consL (varD 1) (nilL))) (nilL))) (nameG 2) (d__law_same_b1 A psi)) (retS (cD (.bl true))))))))))
noncomputable def phi__law_same (A : Ad) : DF := recD (fun psi => defD 3 (d__law_same A psi)) 6
noncomputable def d__law_is (A : Ad) : DS :=
  seqS (ifS (notB (asB (cbD (isiS A.isC) (consL (varD 0) (consL (cD (.adr A.Program)) (nilL)))))) (retS (cD (.bl false))) (nextS)) (retS (callD (phi__law_same A) (consL (tupD (consL (un1D (fldS A.Program "sides") (varD 0)) (consL (un1D (fldS A.Program "tables") (varD 0)) (consL (un1D (fldS A.Program "readings") (varD 0)) (nilL))))) (consL (varD 1) (nilL)))))
noncomputable def phi__law_is (A : Ad) : DF := defD 2 (d__law_is A)
noncomputable def d_are_all (A : Ad) : DS :=
  retS (andV (callD (phi_are_integers A) (consL (varD 0) (consL (varD 1) (nilL)))) (bin2 (cbD DLS.sortNC (consL (varD 0) (nilL))) (lrgD (varD 1)) (opD eqD)))
noncomputable def phi_are_all (A : Ad) : DF := defD 2 (d_are_all A)
noncomputable def d_program_of (A : Ad) : DS :=
  seqS (asgS 3 (makeC A.Program (phi_Program___init__ A) (consL (cD (.int 1)) (consL (cD (.int 1)) (consL (tupD (nilL)) (nilL)))))) (seqS (exprS (methF A.Program "keep" (phi_Program_keep A) (varD 3) (consL (varD 0) (consL (varD 1) (consL (cbD (tupC) (consL (DLS.sortSetD (varD 2)) (nilL))) (nilL)))))) (retS (varD 3)))
noncomputable def phi_program_of (A : Ad) : DF := defD 4 (d_program_of A)
noncomputable def d_renamed_c1e (A : Ad) : DE S :=
  tupD (consL (bin2 (varD 1) (varD 3) ixS) (consL (bin2 (varD 1) (varD 4) ixS) (consL (varD 5) (nilL))))
noncomputable def d_renamed_c1 (A : Ad) : DE S :=
  compD (seqI (un1D (fldS A.Program "readings") (varD 0))) [3, 4, 5] (tupG 3 (consG (nameG 3) (consG (nameG 4) (consG (nameG 5) (nilG))))) (yesB) (d_renamed_c1e A)
noncomputable def d_renamed (A : Ad) : DS :=
  seqS (ifS (notB (asB (callD (phi_are_all A) (consL (varD 1) (consL (un1D (fldS A.Program "tables") (varD 0)) (nilL)))))) (raise0 A.NoNames) (nextS)) (seqS (asgS 2 (d_renamed_c1 A)) (retS (callD (phi_program_of A) (consL (un1D (fldS A.Program "sides") (varD 0)) (consL (un1D (fldS A.Program "tables") (varD 0)) (consL (varD 2) (nilL)))))))
noncomputable def phi_renamed (A : Ad) : DF := defD 6 (d_renamed A)
noncomputable def d__law_sorted_parts (A : Ad) : DS :=
  retS (tupD (consL (varD 0) (consL (varD 1) (consL (cbD (tupC) (consL (DLS.sortSetD (varD 2)) (nilL))) (nilL)))))
noncomputable def phi__law_sorted_parts (A : Ad) : DF := defD 3 (d__law_sorted_parts A)
noncomputable def d__law_renamed_c1e (A : Ad) : DE S :=
  tupD (consL (bin2 (varD 1) (bin2 (varD 3) (cD (.int 0)) ixS) ixS) (consL (bin2 (varD 1) (bin2 (varD 3) (cD (.int 1)) ixS) ixS) (consL (bin2 (varD 3) (cD (.int 2)) ixS) (nilL))))
noncomputable def d__law_renamed_c1 (A : Ad) : DE S :=
  compD (seqI (bin2 (varD 0) (cD (.int 2)) ixS)) [3] (nameG 3) (yesB) (d__law_renamed_c1e A)
noncomputable def d__law_renamed (A : Ad) : DS :=
  seqS (asgS 2 (d__law_renamed_c1 A)) (retS (callD (phi__law_sorted_parts A) (consL (bin2 (varD 0) (cD (.int 0)) ixS) (consL (bin2 (varD 0) (cD (.int 1)) ixS) (consL (varD 2) (nilL))))))
noncomputable def phi__law_renamed (A : Ad) : DF := defD 4 (d__law_renamed A)
noncomputable def d_Program___eq__ (A : Ad) : DS :=
  seqS (ifS (notB (asB (cbD (isiS A.isC) (consL (varD 1) (consL (cD (.adr A.Program)) (nilL)))))) (retS (cD (.bl false))) (nextS)) (retS (bin2 (tupD (consL (un1D (fldS A.Program "sides") (varD 0)) (consL (un1D (fldS A.Program "tables") (varD 0)) (consL (un1D (fldS A.Program "readings") (varD 0)) (nilL))))) (tupD (consL (un1D (fldS A.Program "sides") (varD 1)) (consL (un1D (fldS A.Program "tables") (varD 1)) (consL (un1D (fldS A.Program "readings") (varD 1)) (nilL))))) (opD eqD)))
noncomputable def phi_Program___eq__ (A : Ad) : DF := defD 2 (d_Program___eq__ A)
noncomputable def d_backward_c1e (A : Ad) : DE S :=
  un1D negS (varD 5)
noncomputable def d_backward_c1 (A : Ad) : DE S :=
  compD (seqI (varD 4)) [5] (nameG 5) (yesB) (d_backward_c1e A)
noncomputable def d_backward_c3e (A : Ad) : DE S :=
  tupD (consL (varD 3) (consL (varD 2) (consL (cbD (tupC) (consL (d_backward_c1 A) (nilL))) (nilL))))
noncomputable def d_backward_c3 (A : Ad) : DE S :=
  compD (seqI (un1D (fldS A.Program "readings") (varD 0))) [2, 3, 4] (tupG 3 (consG (nameG 2) (consG (nameG 3) (consG (nameG 4) (nilG))))) (yesB) (d_backward_c3e A)
noncomputable def d_backward (A : Ad) : DS :=
  seqS (asgS 1 (d_backward_c3 A)) (retS (callD (phi_program_of A) (consL (un1D (fldS A.Program "sides") (varD 0)) (consL (un1D (fldS A.Program "tables") (varD 0)) (consL (varD 1) (nilL))))))
noncomputable def phi_backward (A : Ad) : DF := defD 6 (d_backward A)
noncomputable def d__law_backward_c1e (A : Ad) : DE S :=
  bin2 (cD (.int 0)) (varD 5) (opD subD)
noncomputable def d__law_backward_c1 (A : Ad) : DE S :=
  compD (seqI (varD 4)) [5] (nameG 5) (yesB) (d__law_backward_c1e A)
noncomputable def d__law_backward_b3 (A : Ad) : DS :=
  exprS (mthL appS (varD 1) (consL (tupD (consL (varD 3) (consL (varD 2) (consL (cbD (tupC) (consL (d__law_backward_c1 A) (nilL))) (nilL))))) (nilL)))
noncomputable def d__law_backward (A : Ad) : DS :=
  seqS (asgS 1 (celD (nilL))) (seqS (forS (seqI (bin2 (varD 0) (cD (.int 2)) ixS)) (tupG 3 (consG (nameG 2) (consG (nameG 3) (consG (nameG 4) (nilG))))) (d__law_backward_b3 A)) (retS (callD (phi__law_sorted_parts A) (consL (bin2 (varD 0) (cD (.int 0)) ixS) (consL (bin2 (varD 0) (cD (.int 1)) ixS) (consL (varD 1) (nilL)))))))
noncomputable def phi__law_backward (A : Ad) : DF := defD 6 (d__law_backward A)
end SH
namespace SH
open PySem PySem.Spec DL DLS PySem.W
open L2 hiding keyOf
/-! ### readings -/
abbrev Rd := Int × Int × List Int
def kR (r : Rd) : NK := .tup [.num r.1, .num r.2.1, .tup (r.2.2.map .num)]
def dR (r : Rd) : D := .tup [.int r.1, .int r.2.1, .tup (r.2.2.map .int)]
theorem keysOf_nums : ∀ is : List Int, keysOf (is.map D.int) = some (is.map .num)
  | [] => rfl
  | i :: is => by
    rw [List.map_cons, List.map_cons, keysOf, keysOf_nums is]
    rfl
theorem dKs_nums : ∀ is : List Int, dKs (is.map .num) = is.map D.int
  | [] => rfl
  | i :: is => by rw [List.map_cons, List.map_cons, dKs, dKs_nums is]; rfl
theorem pyKs_nums : ∀ is : List Int, pyKs (is.map .num) = is.map PyData.int
  | [] => rfl
  | i :: is => by rw [List.map_cons, List.map_cons, pyKs, pyKs_nums is]; rfl
theorem key_dR (r : Rd) : keyOf (dR r) = some (kR r) := by
  unfold dR kR
  simp [keyOf, keysOf, keysOf_nums]
theorem dK_kR (r : Rd) : dK (kR r) = dR r := by
  unfold dR kR
  simp [dK, dKs, dKs_nums]
theorem kR_inj {r q : Rd} (h : kR r = kR q) : r = q := by
  have e := congrArg dK h
  rw [dK_kR, dK_kR] at e
  unfold dR at e
  obtain ⟨a, b, c⟩ := r
  obtain ⟨a', b', c'⟩ := q
  simp at e
  obtain ⟨e1, e2, e3⟩ := e
  have e4 : c = c' := by
    have := (List.map_inj_right (f := D.int) (fun x y h => by cases h; rfl)).mp e3
    exact this
  rw [e1, e2, e4]
theorem alike_kR (r q : Rd) : alike (pyK (kR r)) (pyK (kR q)) = true := by
  unfold kR
  simp [pyK, pyKs, pyKs_nums, alike, alikeAll, alike_ints]
theorem depthAll_nums : ∀ is : List Int, NestedKey.depthAll (is.map .num) = 0
  | [] => rfl
  | i :: is => by rw [List.map_cons, NestedKey.depthAll, depthAll_nums is]; rfl
theorem plainKs_nums : ∀ is : List Int, plainKs (is.map .num) = true
  | [] => rfl
  | i :: is => by rw [List.map_cons, plainKs, plainKs_nums is]; rfl
theorem good_kR (r : Rd) : goodK (kR r) = true := by
  unfold kR goodK
  simp [plainK, plainKs, plainKs_nums, NestedKey.depth, NestedKey.depthAll, depthAll_nums, pyK, pyKs, pyKs_nums, PyData.depth, PyData.depthAll, depth_ints]
theorem goodKs_kR {rs : List Rd} (h : rs.length < 64) : goodKs (rs.map kR) = true := by
  unfold goodKs
  simp only [Bool.and_eq_true, decide_eq_true_eq, List.all_eq_true, List.length_map]
  refine ⟨⟨h, fun k hk => ?_⟩, fun a ha b hb => ?_⟩
  · obtain ⟨r, _, rfl⟩ := List.mem_map.mp hk
    exact good_kR r
  · obtain ⟨r, _, rfl⟩ := List.mem_map.mp ha
    obtain ⟨q, _, rfl⟩ := List.mem_map.mp hb
    exact alike_kR r q
theorem keysOf_dRs : ∀ rs : List Rd, keysOf (rs.map dR) = some (rs.map kR)
  | [] => rfl
  | r :: rs => by rw [List.map_cons, List.map_cons, keysOf, key_dR, keysOf_dRs rs]
/-- the readings, each once, in order -/
def unR : NK → Rd
  | .tup [.num i, .num j, .tup ks] => (i, j, ks.map fun k => match k with
    | .num n => n
    | _ => 0)
  | _ => (0, 0, [])
@[simp] theorem unR_kR (r : Rd) : unR (kR r) = r := by
  unfold kR unR
  simp [List.map_map, Function.comp_def]
def sortR (rs : List Rd) : List Rd := (sortK (rs.map kR)).map unR
theorem map_sortR (rs : List Rd) : (sortR rs).map kR = sortK (rs.map kR) := by
  unfold sortR
  rw [List.map_map]
  refine (List.map_congr_left fun k hk => ?_).trans (List.map_id _)
  obtain ⟨r, _, rfl⟩ := List.mem_map.mp ((mem_sortK _ _).mp hk)
  simp
theorem mem_sortR (rs : List Rd) (r : Rd) : r ∈ sortR rs ↔ r ∈ rs := by
  have e : r ∈ sortR rs ↔ kR r ∈ (sortR rs).map kR := ⟨fun h => List.mem_map.mpr ⟨r, h, rfl⟩, fun h => by
    obtain ⟨q, hq, e⟩ := List.mem_map.mp h
    rw [← kR_inj e]; exact hq⟩
  rw [e, map_sortR, mem_sortK]
  exact ⟨fun h => by
    obtain ⟨q, hq, e⟩ := List.mem_map.mp h
    rw [← kR_inj e]; exact hq, fun h => List.mem_map.mpr ⟨r, h, rfl⟩⟩
theorem alike_rs (rs : List Rd) : ∀ a ∈ rs.map kR, ∀ b ∈ rs.map kR, alike (pyK a) (pyK b) = true := fun a ha b hb => by
  obtain ⟨r, _, rfl⟩ := List.mem_map.mp ha
  obtain ⟨q, _, rfl⟩ := List.mem_map.mp hb
  exact alike_kR r q
theorem sortR_ext {rs qs : List Rd} (h : ∀ r, r ∈ rs ↔ r ∈ qs) : sortR rs = sortR qs := by
  unfold sortR
  rw [sortK_ext (alike_rs rs) fun k => ?_]
  constructor
  · intro hk
    obtain ⟨r, hr, rfl⟩ := List.mem_map.mp hk
    exact List.mem_map.mpr ⟨r, (h r).mp hr, rfl⟩
  · intro hk
    obtain ⟨r, hr, rfl⟩ := List.mem_map.mp hk
    exact List.mem_map.mpr ⟨r, (h r).mpr hr, rfl⟩
theorem len_sortR (rs : List Rd) : (sortR rs).length ≤ rs.length := by
  unfold sortR
  rw [List.length_map]
  have := len_sortK (rs.map kR)
  rwa [List.length_map] at this
theorem sortSet_rs {rs : List Rd} (h : rs.length < 64) : sortSetF (rs.map dR) = some ((sortR rs).map dR) := by
  unfold sortSetF
  rw [keysOf_dRs]
  dsimp only
  rw [if_pos (goodKs_kR h), ← map_sortR, List.map_map]
  congr 1
  exact List.map_congr_left fun r _ => dK_kR r
end SH
namespace SH
open PySem PySem.Spec DL DLS PySem.W
open L2 hiding keyOf
section
variable (A : Ad)
theorem is_integer_i (i : Int) (g : G) : phi_is_integer A [.d (.int i)] g = .ok (.d (.bl true)) g := by
  unfold phi_is_integer d_is_integer defD
  simp [finD]
theorem law_integer_i (i : Int) (g : G) : phi__law_integer A [.d (.int i)] g = .ok (.d (.bl true)) g := by
  unfold phi__law_integer d__law_integer defD
  simp [finD]
theorem is_within_i {i lo hi : Int} (h1 : lo ≤ i) (h2 : i ≤ hi) (g : G) : phi_is_within A [.d (.int i), .d (.int lo), .d (.int hi)] g = .ok (.d (.bl true)) g := by
  unfold phi_is_within d_is_within defD
  simp [is_integer_i, chD, h1, h2, finD]
theorem is_triple_t (a b c : D) (g : G) : phi_is_triple A [.d (.tup [a, b, c])] g = .ok (.d (.bl true)) g := by
  unfold phi_is_triple d_is_triple defD
  simp [finD]
theorem are_integers_t {is : List Int} (h : is.length ≤ 1000) (g : G) : phi_are_integers A [.d (.tup (is.map D.int)), .d (.int is.length)] g = .ok (.d (.bl true)) g := by
  unfold phi_are_integers d_are_integers defD
  have e : d_are_integers_c1 A [some (.d (.tup (is.map D.int))), some (.d (.int is.length)), none] g = .ok (.d (.lst ((is.map D.int).map fun _ => D.bl true))) g :=
    compD_map _ (ds := is.map D.int) (g1 := g) (by simp) (fun d hd acc => ⟨_, rfl, rfl, by
      obtain ⟨i, _, rfl⟩ := List.mem_map.mp hd
      simp [d_are_integers_c1e, is_integer_i A]⟩) (by rw [List.length_map]; omega)
  simp [-List.map_map, e, all_true, finD]
theorem are_within_t {is : List Int} {lo hi : Int} (h : is.length ≤ 1000) (b : ∀ i ∈ is, lo ≤ i ∧ i ≤ hi) (g : G) : phi_are_within A [.d (.tup (is.map D.int)), .d (.int is.length), .d (.int lo), .d (.int hi)] g = .ok (.d (.bl true)) g := by
  unfold phi_are_within d_are_within defD
  have e : d_are_within_c1 A [some (.d (.tup (is.map D.int))), some (.d (.int is.length)), some (.d (.int lo)), some (.d (.int hi)), none] g = .ok (.d (.lst ((is.map D.int).map fun _ => D.bl true))) g :=
    compD_map _ (ds := is.map D.int) (g1 := g) (by simp) (fun d hd acc => ⟨_, rfl, rfl, by
      obtain ⟨i, hi, rfl⟩ := List.mem_map.mp hd
      simp [d_are_within_c1e, chD, (b i hi).1, (b i hi).2]⟩) (by rw [List.length_map]; omega)
  simp [-List.map_map, are_integers_t A h, e, all_true, finD]
end
end SH
namespace SH
open PySem PySem.Spec DL DLS PySem.W
open L2 hiding keyOf
/-- a reading of a program of k sides and m tables -/
structure OkR (k m : Nat) (r : Rd) : Prop where
  a : 0 ≤ r.1 ∧ r.1 < m
  b : 0 ≤ r.2.1 ∧ r.2.1 < m
  l : r.2.2.length = k
  c : ∀ x ∈ r.2.2, -1000000000000 ≤ x ∧ x ≤ 1000000000000
section
variable (A : Ad)
theorem is_reading_t {k m : Nat} {r : Rd} (h : OkR k m r) (hk : k ≤ 4) (g : G) : phi_is_reading A [.d (.int k), .d (.int m), .d (dR r)] g = .ok (.d (.bl true)) g := by
  obtain ⟨i, j, st⟩ := r
  obtain ⟨h1, h2, h3, h4⟩ := h
  dsimp only at h1 h2 h3 h4
  have e1 := is_within_i A h1.1 (show i ≤ (m : Int) - 1 by omega) g
  have e2 := is_within_i A h2.1 (show j ≤ (m : Int) - 1 by omega) g
  have e3 := are_within_t A (is := st) (by omega) h4 g
  rw [h3] at e3
  have t := is_triple_t A (.int i) (.int j) (.tup (st.map .int)) g
  have x0 : atI [D.int i, D.int j, D.tup (st.map .int)] 0 = some (.int i) := rfl
  have x1 : atI [D.int i, D.int j, D.tup (st.map .int)] 1 = some (.int j) := rfl
  have x2 : atI [D.int i, D.int j, D.tup (st.map .int)] 2 = some (.tup (st.map .int)) := rfl
  unfold phi_is_reading d_is_reading defD dR
  simp [ixS, t, x0, x1, x2, e1, e2, e3, finD, negS]
end
end SH
namespace SH
open PySem PySem.Spec DL DLS PySem.W
open L2 hiding keyOf
theorem n1 : ¬ (("sides" : Str) = "tables") := by decide
theorem n2 : ¬ (("sides" : Str) = "readings") := by decide
theorem n3 : ¬ (("tables" : Str) = "readings") := by decide
abbrev flds (x y z : D) : List (Str × D) := [("sides", x), ("tables", y), ("readings", z)]
def dP (A : Ad) (k m : Int) (rs : List Rd) : D := .ins A.Program (flds (.int k) (.int m) (.tup (rs.map dR)))
theorem put3 (x y z : D) {gs : List (Str × D)} (h : gs = [] ∨ ∃ a b c, gs = flds a b c) : putD "readings" z (putD "tables" y (putD "sides" x gs)) = flds x y z := by
  rcases h with rfl | ⟨a, b, c, rfl⟩ <;> simp [putD, flds, n1, n2, n3]
section
variable (A : Ad)
theorem keep_eq (x y z : D) {gs : List (Str × D)} (h : gs = [] ∨ ∃ a b c, gs = flds a b c) (g : G) (p : Nat) (hp : g[p]? = some (.ins A.Program gs)) :
    phi_Program_keep A [.c p, .d x, .d y, .d z] g = .ok (.d .non) (g.set p (.ins A.Program (flds x y z))) := by
  have hlt : p < g.length := (List.getElem?_eq_some_iff.mp hp).1
  have small : gs.length < 900 := by rcases h with rfl | ⟨a, b, c, rfl⟩ <;> simp [flds]
  have e3 := put3 x y z h
  have l1 : ∀ (f : Str) (v : D) (l : List (Str × D)), (putD f v l).length ≤ l.length + 1 := fun f v l => by
    induction l with
    | nil => simp [putD]
    | cons q l ih => obtain ⟨a, b⟩ := q; unfold putD; by_cases c : a = f <;> simp [c] <;> omega
  have m1 := l1 "sides" x gs
  have m2 := l1 "tables" y (putD "sides" x gs)
  have small3 : gs.length ≤ 3 := by rcases h with rfl | ⟨a, b, c, rfl⟩ <;> simp [flds]
  have s1 := sfld_ok (c := A.Program) (n := "sides") (fo := varD 0) (fv := varD 1) (ρ := [some (.c p), some (.d x), some (.d y), some (.d z)]) (g := g) (x := x) (p := p) (gs := gs) (by simp) (by simp) hp small
  have h2 : (g.set p (.ins A.Program (putD "sides" x gs)))[p]? = some (.ins A.Program (putD "sides" x gs)) := List.getElem?_set_self hlt
  have s2 := sfld_ok (c := A.Program) (n := "tables") (fo := varD 0) (fv := varD 2) (ρ := [some (.c p), some (.d x), some (.d y), some (.d z)]) (x := y) (p := p) (by simp) (by simp) h2 (by omega)
  rw [List.set_set] at s2
  have h3 : (g.set p (.ins A.Program (putD "tables" y (putD "sides" x gs))))[p]? = some (.ins A.Program (putD "tables" y (putD "sides" x gs))) := List.getElem?_set_self hlt
  have s3 := sfld_ok (c := A.Program) (n := "readings") (fo := varD 0) (fv := varD 3) (ρ := [some (.c p), some (.d x), some (.d y), some (.d z)]) (x := z) (p := p) (by simp) (by simp) h3 (by omega)
  rw [List.set_set, e3] at s3
  unfold phi_Program_keep d_Program_keep defD
  simp [s1, s2, s3, take_set_self]
end
end SH
namespace SH
open PySem PySem.Spec DL DLS PySem.W
open L2 hiding keyOf
theorem leX_dR (r q : Rd) : leX (dR r) (dR q) = some (.bl (!dataLt (pyK (kR q)) (pyK (kR r)))) := by
  have e1 : leD (dR r) (dR q) = none := by
    unfold dR
    rfl
  have e2 := keyOf_py _ _ (key_dR r)
  have e3 := keyOf_py _ _ (key_dR q)
  have c : alike (pyK (kR r)) (pyK (kR q)) = true ∧ notNon (pyK (kR r)) = true ∧ (pyK (kR r)).depth ≤ 64 := by
    refine ⟨alike_kR r q, ?_, ?_⟩
    · unfold kR; rfl
    · unfold kR
      simp [pyK, pyKs, pyKs_nums, PyData.depth, PyData.depthAll, depth_ints]
  unfold leX
  rw [e1]
  dsimp only
  unfold leF
  rw [e2, e3]
  dsimp only
  rw [if_pos c]
  rfl
/-- readings in order, each once -/
def Ord (rs : List Rd) : Prop := rs.Pairwise fun r q => dataLt (pyK (kR r)) (pyK (kR q)) = true
theorem ord_sortR (rs : List Rd) : Ord (sortR rs) := by
  have h := sortK_strict (alike_rs rs)
  rw [← map_sortR] at h
  exact List.pairwise_map.mp h
/-- what a program's parts are -/
structure OkP (k m : Nat) (rs : List Rd) : Prop where
  k1 : 1 ≤ k
  k4 : k ≤ 4
  m1 : 1 ≤ m
  m8 : m ≤ 8
  few : rs.length ≤ 24
  each : ∀ r ∈ rs, OkR k m r
  ord : Ord rs
section
variable (A : Ad)
theorem init_step {k m : Nat} {rs : List Rd} (h : OkP k m rs) (p : Nat) (x y : Option S) (g : G) {i : Nat} {r : Rd} (hr : rs[i]? = some r) :
    d_Program___init___b1 A [some (.c p), some (.d (.int k)), some (.d (.int m)), some (.d (.tup (rs.map dR))), some (.d (.int i)), some (.d (dR r))] g = .nx [some (.c p), some (.d (.int k)), some (.d (.int m)), some (.d (.tup (rs.map dR))), some (.d (.int i)), some (.d (dR r))] g := by
  have e := is_reading_t A (h.each r (List.mem_of_getElem? hr)) h.k4 g
  have hi : i < rs.length := (List.getElem?_eq_some_iff.mp hr).1
  unfold d_Program___init___b1
  by_cases z : i = 0
  · subst z
    simp [e]
  · have z1 : ¬ (0 : Int) ≥ (i : Int) := by omega
    have z2 : (0 : Int) < (i : Int) := by omega
    obtain ⟨j, rfl⟩ : ∃ j, i = j + 1 := ⟨i - 1, by omega⟩
    have hj : rs[j]? = some (rs[j]'(by omega)) := List.getElem?_eq_getElem (by omega)
    have at1 : atI (rs.map dR) (j : Int) = some (dR (rs[j]'(by omega))) := L2.atI_nat (by rw [List.getElem?_map, hj]; rfl)
    have lt : dataLt (pyK (kR (rs[j]'(by omega)))) (pyK (kR r)) = true := by
      have e2 : r = rs[j + 1]'hi := by
        rw [List.getElem?_eq_getElem hi] at hr
        exact (Option.some.inj hr).symm
      rw [e2]
      exact List.pairwise_iff_getElem.mp h.ord j (j + 1) (by omega) hi (by omega)
    simp [e, z2, ixS, readL, at1, leX_dR, lt]
theorem enum_mem {ds : List D} {d : D} (h : d ∈ pairsD 0 ds) : ∃ (i : Nat) (x : D), ds[i]? = some x ∧ d = .tup [.int i, x] := by
  obtain ⟨i, hi, e⟩ := List.getElem_of_mem h
  obtain ⟨x, h1, h2⟩ := pairsD_get 0 ds i d (by rw [List.getElem?_eq_getElem hi, e])
  exact ⟨i, x, h1, by rw [h2, Nat.zero_add]⟩
theorem init_eq {k m : Nat} {rs : List Rd} (h : OkP k m rs) (g : G) (p : Nat) (hp : g[p]? = some (.ins A.Program [])) :
    phi_Program___init__ A [.c p, .d (.int k), .d (.int m), .d (.tup (rs.map dR))] g = .ok (.d .non) (g.set p (.ins A.Program (flds (.int k) (.int m) (.tup (rs.map dR))))) := by
  have w1 := is_within_i A (i := k) (lo := 1) (hi := 4) (by have := h.k1; omega) (by have := h.k4; omega) g
  have w2 := is_within_i A (i := m) (lo := 1) (hi := 8) (by have := h.m1; omega) (by have := h.m8; omega) g
  have few : ¬ (24 : Int) < rs.length := by have := h.few; omega
  have loop := loopS_inv (tupG 2 (consG (nameG 4) (consG (nameG 5) nilG))) (d_Program___init___b1 A) (fun _ ρ g' => g' = g ∧ ∃ x y, ρ = [some (.c p), some (.d (.int k)), some (.d (.int m)), some (.d (.tup (rs.map dR))), x, y]) (fun _ _ => False) (pairsD 0 (rs.map dR))
    [some (.c p), some (.d (.int k)), some (.d (.int m)), some (.d (.tup (rs.map dR))), none, none] g ⟨rfl, none, none, rfl⟩ (fun d hd n ρ g' ⟨e1, x, y, e2⟩ => by
      subst e1; subst e2
      obtain ⟨i, z, hz, rfl⟩ := enum_mem hd
      rw [List.getElem?_map] at hz
      cases hr : rs[i]? with
      | none => rw [hr] at hz; cases hz
      | some r =>
        rw [hr] at hz
        cases hz
        exact ⟨_, rfl, .inl ⟨_, _, init_step A h p x y g' hr, rfl, _, _, rfl⟩⟩)
  rcases loop with ⟨ρ2, g2, e, rfl, x, y, rfl⟩ | ⟨_, _, _, z⟩
  · have kp := keep_eq A (.int k) (.int m) (.tup (rs.map dR)) (.inl rfl) g2 p hp
    have sn : snap g2 (.c p) = some (.ins A.Program []) := by show snapC g2[p]? = _; rw [hp]; rfl
    unfold phi_Program___init__ d_Program___init__ defD
    simp [w1, w2, few, forS, enumI, e, methF, sn, kp, take_set_self]
  · exact z.elim
end
end SH
namespace SH
open PySem PySem.Spec DL DLS PySem.W
open L2 hiding keyOf
def dQ (k m : Int) (rs : List Rd) : D := .tup [.int k, .int m, .tup (rs.map dR)]
theorem okP_one : OkP 1 1 [] := ⟨by decide, by decide, by decide, by decide, by decide, (fun _ h => nomatch h), List.Pairwise.nil⟩
def rg (m : Nat) : List Int := (List.range m).map fun i : Nat => (i : Int)
theorem rangeL_rg (m : Nat) : rangeL 0 (m : Int) = (rg m).map D.int := by
  unfold rangeL rg
  rw [Int.sub_zero, Int.toNat_natCast, List.map_map]
  exact List.map_congr_left fun i _ => by simp
@[simp] theorem rg_len (m : Nat) : (rg m).length = m := by simp [rg]
theorem mem_rg {m : Nat} {i : Int} : i ∈ rg m ↔ 0 ≤ i ∧ i < m := by
  unfold rg
  rw [List.mem_map]
  constructor
  · rintro ⟨j, hj, rfl⟩
    rw [List.mem_range] at hj
    omega
  · intro h
    exact ⟨i.toNat, by rw [List.mem_range]; omega, by omega⟩
theorem rg_ord (m : Nat) : (rg m).Pairwise (· ≤ ·) := by
  unfold rg
  rw [List.pairwise_map]
  refine List.Pairwise.imp ?_ List.pairwise_lt_range
  intro a b h
  omega
theorem sortN_rg {ns : List Int} {m : Nat} (h : ns.Perm (rg m)) : sortN ns = rg m :=
  List.Perm.eq_of_pairwise (le := fun a b : Int => a ≤ b) (fun a b _ _ h1 h2 => Int.le_antisymm h1 h2) (sortN_ord ns) (rg_ord m) ((sortN_perm ns).trans h)
theorem k1 : (("tables" : Str) == "sides") = false := by decide
theorem k2 : (("readings" : Str) == "sides") = false := by decide
theorem k3 : (("readings" : Str) == "tables") = false := by decide
theorem k4 : (("keep" : Str) == "sides") = false := by decide
theorem k5 : (("keep" : Str) == "tables") = false := by decide
theorem k6 : (("keep" : Str) == "readings") = false := by decide
section
variable (A : Ad)
theorem fld_sides (k m : Int) (rs : List Rd) (g : G) : fldS A.Program "sides" (.d (dP A k m rs)) g = .ok (.d (.int k)) g := by
  simp [dP, flds, List.lookup]
theorem fld_tables (k m : Int) (rs : List Rd) (g : G) : fldS A.Program "tables" (.d (dP A k m rs)) g = .ok (.d (.int m)) g := by
  simp [dP, flds, List.lookup, k1]
theorem fld_readings (k m : Int) (rs : List Rd) (g : G) : fldS A.Program "readings" (.d (dP A k m rs)) g = .ok (.d (.tup (rs.map dR))) g := by
  simp [dP, flds, List.lookup, k2, k3]
theorem mk_frz {k m : Nat} {rs : List Rd} (h : OkP k m rs) {fl : DE (List S)} {ρ : DL.Env} {g g1 : G} (hf : fl ρ g = .ok [.d (.int k), .d (.int m), .d (.tup (rs.map dR))] g1) :
    frzD (makeC A.Program (phi_Program___init__ A) fl) ρ g = .ok (.d (dP A k m rs)) (g1 ++ [.dead]) := by
  have e := init_eq A h (g1 ++ [.ins A.Program []]) g1.length (app_get _ _)
  rw [app_set] at e
  simp only [frzD, makeC, hf, makeF, e, R.bind_ok]
  rw [take_app1]
  simp only [R.bind_ok, app_get, snapC, app_set]
  rfl
theorem mk_cel {k m : Nat} {rs : List Rd} (h : OkP k m rs) {fl : DE (List S)} {ρ : DL.Env} {g g1 : G} (hf : fl ρ g = .ok [.d (.int k), .d (.int m), .d (.tup (rs.map dR))] g1) :
    makeC A.Program (phi_Program___init__ A) fl ρ g = .ok (.c g1.length) (g1 ++ [.ins A.Program (flds (.int k) (.int m) (.tup (rs.map dR)))]) := by
  have e := init_eq A h (g1 ++ [.ins A.Program []]) g1.length (app_get _ _)
  rw [app_set] at e
  simp only [makeC, hf, makeF, e, R.bind_ok]
  rw [take_app1]
theorem ix3_0 (a b c : D) (g : G) : ixS (.d (.tup [a, b, c])) (.d (.int 0)) g = .ok (.d a) g := rfl
theorem ix3_1 (a b c : D) (g : G) : ixS (.d (.tup [a, b, c])) (.d (.int 1)) g = .ok (.d b) g := rfl
theorem ix3_2 (a b c : D) (g : G) : ixS (.d (.tup [a, b, c])) (.d (.int 2)) g = .ok (.d c) g := rfl
theorem law_program_eq {k m : Nat} {rs : List Rd} (h : OkP k m rs) (g : G) : phi__law_program A [.d (dQ k m rs)] g = .ok (.d (dP A k m rs)) g := by
  have e : ∀ fl, fl = consL (bin2 (varD 0) (cD (.int 0)) ixS) (consL (bin2 (varD 0) (cD (.int 1)) ixS) (consL (bin2 (varD 0) (cD (.int 2)) ixS) nilL)) → frzD (makeC A.Program (phi_Program___init__ A) fl) [some (.d (dQ k m rs))] g = .ok (.d (dP A k m rs)) (g ++ [.dead]) := fun fl e => mk_frz A h (by
    subst e
    simp [dQ, ix3_0, ix3_1, ix3_2])
  unfold phi__law_program d__law_program defD
  simp [-frzD, e, finD]
theorem sortSet_at {f : DE S} {ρ : DL.Env} {g : G} {s : S} {rs : List Rd} (hf : f ρ g = .ok s g) (hs : readLL g s = some (rs.map dR)) (h : rs.length < 64) : sortSetD f ρ g = .ok (.d (.lst ((sortR rs).map dR))) g := by
  simp [hf, sortSetC, hs, sortSet_rs h]
theorem readLL_app {g r : G} {s : S} {ds : List D} (h : readLL g s = some ds) : readLL (g ++ r) s = some ds := by
  cases s with
  | d x => cases x <;> exact h
  | c n =>
    unfold readLL readL at h ⊢
    dsimp only at h ⊢
    cases q : g[n]? with
    | none => rw [q] at h; cases h
    | some c => rw [List.getElem?_append_left (List.getElem?_eq_some_iff.mp q).1, q]; rw [q] at h; exact h
  | i n =>
    unfold readLL readL at h ⊢
    dsimp only at h ⊢
    cases q : g[n]? with
    | none => rw [q] at h; cases h
    | some c => rw [List.getElem?_append_left (List.getElem?_eq_some_iff.mp q).1, q]; rw [q] at h; exact h
theorem program_of_eq {k m : Int} {rs : List Rd} (h : rs.length < 64) {s : S} {g : G} (hs : readLL g s = some (rs.map dR)) : phi_program_of A [.d (.int k), .d (.int m), s] g = .ok (.d (dP A k m (sortR rs))) g := by
  have e1 : ∀ fl, fl = consL (cD (.int 1)) (consL (cD (.int 1)) (consL (tupD nilL) nilL)) → makeC A.Program (phi_Program___init__ A) fl [some (.d (.int k)), some (.d (.int m)), some s, none] g = .ok (.c g.length) (g ++ [.ins A.Program (flds (.int 1) (.int 1) (.tup []))]) := fun fl e => mk_cel A okP_one (by
    subst e
    simp)
  have e2 := sortSet_at (f := varD 2) (ρ := [some (.d (.int k)), some (.d (.int m)), some s, some (.c g.length)]) (g := g ++ [.ins A.Program (flds (.int 1) (.int 1) (.tup []))]) (by simp) (readLL_app hs) h
  have e3 := keep_eq A (.int k) (.int m) (.tup ((sortR rs).map dR)) (.inr ⟨_, _, _, rfl⟩) (g ++ [.ins A.Program (flds (.int 1) (.int 1) (.tup []))]) g.length (app_get _ _)
  rw [app_set] at e3
  have sn : snap (g ++ [.ins A.Program (flds (.int 1) (.int 1) (.tup []))]) (.c g.length) = some (.ins A.Program (flds (.int 1) (.int 1) (.tup []))) := by
    show snapC _ = _
    rw [app_get]; rfl
  unfold phi_program_of d_program_of defD
  simp [-sortSetD, e1, methF, sn, flds, List.lookup, k4, k5, k6, e2, tupC, rd1]
  simp only [flds] at e3
  rw [e3]
  simp [finD, app_get, app_take, dP, flds]
theorem are_all_t {ns : List Int} {m : Nat} (h : ns.Perm (rg m)) (hm : m ≤ 1000) (g : G) : phi_are_all A [.d (.tup (ns.map .int)), .d (.int m)] g = .ok (.d (.bl true)) g := by
  have hl : ns.length = m := by rw [h.length_eq, rg_len]
  have e := are_integers_t A (is := ns) (by omega) g
  rw [hl] at e
  have o : lrgOk (m : Int) = true := by
    rw [lrgOk_iff]
    omega
  unfold phi_are_all d_are_all defD
  simp [e, sortNC, sortNF, rd1, sortN_rg h, lrgD, o, rangeL_rg, eqF_ints, finD]
end
end SH
namespace SH
open PySem PySem.Spec DL DLS PySem.W
open L2 hiding keyOf
def renR (ns : List Int) (r : Rd) : Rd := (ns.getD r.1.toNat default, ns.getD r.2.1.toNat default, r.2.2)
def bakR (r : Rd) : Rd := (r.2.1, r.1, r.2.2.map fun x => -x)
/-- the tables of a reading are told -/
def InT (m : Nat) (rs : List Rd) : Prop := ∀ r ∈ rs, (0 ≤ r.1 ∧ r.1 < m) ∧ 0 ≤ r.2.1 ∧ r.2.1 < m
theorem OkP.inT {k m : Nat} {rs : List Rd} (h : OkP k m rs) : InT m rs := fun r hr => ⟨(h.each r hr).a, (h.each r hr).b⟩
theorem tup3_h (r : Rd) (a b c : Nat) (ρ : DL.Env) : tupG 3 (consG (nameG a) (consG (nameG b) (consG (nameG c) nilG))) (.d (dR r)) ρ = some (((ρ.set a (some (.d (.int r.1)))).set b (some (.d (.int r.2.1)))).set c (some (.d (.tup (r.2.2.map .int))))) := rfl
section
variable (A : Ad)
theorem renamed_eq {k : Int} {m : Nat} {rs : List Rd} {ns : List Int} (hn : ns.Perm (rg m)) (hm : m ≤ 1000) (hl : rs.length < 64) (hr : InT m rs) (g : G) :
    phi_renamed A [.d (dP A k m rs), .d (.tup (ns.map .int))] g = .ok (.d (dP A k m (sortR (rs.map (renR ns))))) g := by
  have hlen : ns.length = m := by rw [hn.length_eq, rg_len]
  have e2 : d_renamed_c1 A [some (.d (dP A k m rs)), some (.d (.tup (ns.map .int))), none, none, none, none] g = .ok (.d (.lst (rs.map fun r => dR (renR ns r)))) g :=
    compD_T dR (fun r => dR (renR ns r)) (g1 := g) (by simp [-fldS, fld_readings]) (fun r hr' acc => by
      obtain ⟨⟨a1, a2⟩, b1, b2⟩ := hr r hr'
      have i1 := ix_tup D.int ns a1 (by rw [hlen]; exact a2)
      have i2 := ix_tup D.int ns b1 (by rw [hlen]; exact b2)
      exact ⟨_, rfl, rfl, by simp [d_renamed_c1e, i1, i2, renR, dR]⟩) (by omega)
  have e3 := program_of_eq A (k := k) (m := m) (rs := rs.map (renR ns)) (by rw [List.length_map]; exact hl) (s := .d (.lst (rs.map fun r => dR (renR ns r)))) (g := g) (by
    show some _ = some _
    rw [List.map_map]; rfl)
  have e1 := are_all_t A hn hm g
  unfold phi_renamed d_renamed defD
  simp [-fldS, fld_tables, e1, e2, fld_sides, e3, finD]
theorem backward_eq {k m : Int} {rs : List Rd} (hl : rs.length < 64) (hs : ∀ r ∈ rs, r.2.2.length ≤ 1000) (g : G) :
    phi_backward A [.d (dP A k m rs)] g = .ok (.d (dP A k m (sortR (rs.map bakR)))) g := by
  have e2 : d_backward_c3 A [some (.d (dP A k m rs)), none, none, none, none, none] g = .ok (.d (.lst (rs.map fun r => dR (bakR r)))) g :=
    compD_T dR (fun r => dR (bakR r)) (g1 := g) (by simp [-fldS, fld_readings]) (fun r hr' acc => by
      have e : d_backward_c1 A [some (.d (dP A k m rs)), none, some (.d (.int r.1)), some (.d (.int r.2.1)), some (.d (.tup (r.2.2.map .int))), none] (g ++ [.lst acc]) = .ok (.d (.lst (r.2.2.map fun x => D.int (-x)))) (g ++ [.lst acc]) :=
        compD_T D.int (fun x => D.int (-x)) (g1 := g ++ [Cell.lst acc]) (by simp) (fun x _ acc => ⟨_, rfl, rfl, by simp [d_backward_c1e, negS]⟩) (by have := hs r hr'; omega)
      exact ⟨_, rfl, rfl, by simp [d_backward_c3e, e, tupC, rd1, bakR, dR]⟩) (by omega)
  have e3 := program_of_eq A (k := k) (m := m) (rs := rs.map bakR) (by rw [List.length_map]; exact hl) (s := .d (.lst (rs.map fun r => dR (bakR r)))) (g := g) (by
    show some _ = some _
    rw [List.map_map]; rfl)
  unfold phi_backward d_backward defD
  simp [-fldS, fld_tables, e2, fld_sides, e3, finD]
theorem law_sorted_parts_eq {k m : D} {rs : List Rd} (h : rs.length < 64) {s : S} {g : G} (hs : readLL g s = some (rs.map dR)) : phi__law_sorted_parts A [.d k, .d m, s] g = .ok (.d (.tup [k, m, .tup ((sortR rs).map dR)])) g := by
  have e2 := sortSet_at (f := varD 2) (ρ := [some (.d k), some (.d m), some s]) (g := g) (by simp) hs h
  unfold phi__law_sorted_parts d__law_sorted_parts defD
  simp [-sortSetD, e2, tupC, rd1, finD]
theorem law_renamed_eq {k : Int} {m : Nat} {rs : List Rd} {ns : List Int} (hn : ns.Perm (rg m)) (hl : rs.length < 64) (hr : InT m rs) (g : G) :
    phi__law_renamed A [.d (dQ k m rs), .d (.tup (ns.map .int))] g = .ok (.d (dQ k m (sortR (rs.map (renR ns))))) g := by
  have hlen : ns.length = m := by rw [hn.length_eq, rg_len]
  have e2 : d__law_renamed_c1 A [some (.d (dQ k m rs)), some (.d (.tup (ns.map .int))), none, none] g = .ok (.d (.lst (rs.map fun r => dR (renR ns r)))) g :=
    compD_T dR (fun r => dR (renR ns r)) (g1 := g) (by simp [dQ, ix3_2]) (fun r hr' acc => by
      obtain ⟨⟨a1, a2⟩, b1, b2⟩ := hr r hr'
      have i1 := ix_tup D.int ns a1 (by rw [hlen]; exact a2)
      have i2 := ix_tup D.int ns b1 (by rw [hlen]; exact b2)
      exact ⟨_, rfl, rfl, by simp [d__law_renamed_c1e, dR, ix3_0, ix3_1, ix3_2, i1, i2, renR]⟩) (by omega)
  have e3 := law_sorted_parts_eq A (k := .int k) (m := .int m) (rs := rs.map (renR ns)) (by rw [List.length_map]; exact hl) (s := .d (.lst (rs.map fun r => dR (renR ns r)))) (g := g) (by
    show some _ = some _
    rw [List.map_map]; rfl)
  unfold phi__law_renamed d__law_renamed defD
  simp only [dQ] at e2
  simp [e2, dQ, ix3_0, ix3_1, e3, finD]
theorem law_backward_eq {k m : Int} {rs : List Rd} (hl : rs.length < 64) (hs : ∀ r ∈ rs, r.2.2.length ≤ 1000) (g : G) :
    phi__law_backward A [.d (dQ k m rs)] g = .ok (.d (dQ k m (sortR (rs.map bakR)))) g := by
  obtain ⟨ρ2, g2, e2, i1, x, y, z, i2⟩ := loopS_T dR (tupG 3 (consG (nameG 2) (consG (nameG 3) (consG (nameG 4) nilG)))) (d__law_backward_b3 A)
    (fun dn ρ g' => g' = g ++ [.lst (dn.map fun r => dR (bakR r))] ∧ ∃ x y z, ρ = [some (.d (dQ k m rs)), some (.c g.length), x, y, z, none]) 64 rs [] [some (.d (dQ k m rs)), some (.c g.length), none, none, none, none] (g ++ [.lst []])
    (by simp; omega) ⟨rfl, _, _, _, rfl⟩ (fun r hr dn ρ g' hN ⟨i1, x, y, z, i2⟩ => by
      subst i1
      subst i2
      have e : ∀ acc, d__law_backward_c1 A [some (.d (dQ k m rs)), some (.c g.length), some (.d (.int r.1)), some (.d (.int r.2.1)), some (.d (.tup (r.2.2.map .int))), none] (g ++ [.lst acc]) = .ok (.d (.lst (r.2.2.map fun x => D.int (-x)))) (g ++ [.lst acc]) := fun acc =>
        compD_T D.int (fun x => D.int (-x)) (g1 := g ++ [Cell.lst acc]) (by simp) (fun x _ acc => ⟨_, rfl, rfl, by simp [d__law_backward_c1e]⟩) (by have := hs r hr; omega)
      have ap := app_ok (g := g) (acc := dn.map fun r => dR (bakR r)) (x := dR (bakR r)) (by rw [List.length_map]; omega)
      refine ⟨_, [some (.d (dQ k m rs)), some (.c g.length), some (.d (.int r.1)), some (.d (.int r.2.1)), some (.d (.tup (r.2.2.map .int))), none], g ++ [.lst ((dn ++ [r]).map fun r => dR (bakR r))], rfl, ?_, rfl, _, _, _, rfl⟩
      unfold d__law_backward_b3
      have rl : readLL (g ++ [.lst (dn.map fun r => dR (bakR r))]) (.c g.length) = some (dn.map fun r => dR (bakR r)) := by
        unfold readLL readL
        dsimp only
        rw [app_get]
      have e4 : dR (bakR r) = .tup [.int r.2.1, .int r.1, .tup (r.2.2.map fun x => D.int (-x))] := by simp [dR, bakR]
      rw [e4] at ap
      simp [mthL, rl, e, tupC, rd1, ap, e4])
  subst i1
  subst i2
  have e3 := law_sorted_parts_eq A (k := .int k) (m := .int m) (rs := rs.map bakR) (by rw [List.length_map]; exact hl) (s := .c g.length) (g := g ++ [.lst (rs.map fun r => dR (bakR r))]) (by
    unfold readLL readL
    dsimp only
    rw [app_get, List.map_map]; rfl)
  unfold phi__law_backward d__law_backward defD
  simp only [List.nil_append] at e2
  simp [forS, dQ, ix3_0, ix3_1, ix3_2]
  simp only [dQ] at e2
  rw [e2]
  simp [ix3_0, ix3_1, e3, finD, app_take, dQ]
end
end SH
namespace SH
open PySem PySem.Spec DL DLS PySem.W
open L2 hiding keyOf
/-- plain data, n deep -/
inductive Pl : Nat → D → Prop
  | non {n : Nat} : Pl n .non
  | bl {n : Nat} {b : Bool} : Pl n (.bl b)
  | int {n : Nat} {i : Int} : Pl n (.int i)
  | str {n : Nat} {s : Str} (h : PyData.strOk s = true) : Pl n (.str s)
  | tup {n : Nat} {ds : List D} (hl : ds.length ≤ 1000000) (h : ∀ d ∈ ds, Pl n d) : Pl (n + 1) (.tup ds)
  | lst {n : Nat} {ds : List D} (hl : ds.length ≤ 1000000) (h : ∀ d ∈ ds, Pl n d) : Pl (n + 1) (.lst ds)
theorem mem_rangeL {n : Nat} {d : D} (h : d ∈ rangeL 0 (n : Int)) : ∃ i : Nat, i < n ∧ d = .int i := by
  unfold rangeL at h
  obtain ⟨i, hi, rfl⟩ := List.mem_map.mp h
  rw [List.mem_range] at hi
  exact ⟨i, by omega, by simp⟩
theorem inR_le {i : Int} (h0 : -1000000000 ≤ i) (h1 : i ≤ 1000000000) : inR i = true := by
  rw [inR_iff]
  simp only [Int.reducePow, Int.reduceNeg]
  exact ⟨by omega, by omega⟩
theorem same_loop (f : D) (ds : List D) (hf : f = .tup ds ∨ f = .lst ds) (A : Ad) (psi : DF) (hp : ∀ d ∈ ds, ∀ g, psi [.d d, .d d] g = .ok (.d (.bl true)) g) (hl : ds.length ≤ 1000000) (g : G) :
    ∃ y, forS (range1 (consL (cbD (un1 lenD) (consL (varD 1) nilL)) nilL)) (nameG 2) (d__law_same_b1 A psi) [some (.d f), some (.d f), none] g = .nx [some (.d f), some (.d f), y] g := by
  have hr : range1 (consL (cbD (un1 lenD) (consL (varD 1) nilL)) nilL) [some (.d f), some (.d f), none] g = .ok (rangeL 0 ds.length) g := by
    refine range1_at ?_ (inR_le (by omega) (by omega))
    rcases hf with rfl | rfl <;> simp
  have loop := loopS_inv (nameG 2) (d__law_same_b1 A psi) (fun _ ρ g' => g' = g ∧ ∃ y, ρ = [some (.d f), some (.d f), y]) (fun _ _ => False) (rangeL 0 ds.length)
    [some (.d f), some (.d f), none] g ⟨rfl, none, rfl⟩ (fun d hd n ρ g' ⟨e1, y, e2⟩ => by
      subst e1; subst e2
      obtain ⟨i, hi, rfl⟩ := mem_rangeL hd
      have ix : ixS (.d f) (.d (.int i)) g' = .ok (.d ds[i]) g' := by
        have z : atI ds (i : Int) = some ds[i] := L2.atI_nat (by rw [List.getElem?_eq_getElem hi])
        rcases hf with rfl | rfl
        · show (match atI ds (i : Int) with | some x => DL.R.ok (S.d x) g' | none => DL.R.bad) = _
          rw [z]
        · show (match atI ds (i : Int) with | some x => DL.R.ok (S.d x) g' | none => DL.R.bad) = _
          rw [z]
      refine ⟨_, rfl, .inl ⟨[some (.d f), some (.d f), some (.d (.int i))], g', ?_, rfl, _, rfl⟩⟩
      unfold d__law_same_b1
      simp [ix, hp _ (List.getElem_mem hi)])
  rcases loop with ⟨ρ2, g2, e, rfl, y, rfl⟩ | ⟨_, _, _, z⟩
  · exact ⟨y, by unfold forS; rw [hr]; exact e⟩
  · exact z.elim
section
variable (A : Ad) (psi : DF) (g : G)
theorem same_non : defD 3 (d__law_same A psi) [.d .non, .d .non] g = .ok (.d (.bl true)) g := by
  unfold defD d__law_same
  simp [isNF, finD]
theorem same_bl (b : Bool) : defD 3 (d__law_same A psi) [.d (.bl b), .d (.bl b)] g = .ok (.d (.bl true)) g := by
  unfold defD d__law_same
  simp [isNF, finD]
theorem same_int (i : Int) : defD 3 (d__law_same A psi) [.d (.int i), .d (.int i)] g = .ok (.d (.bl true)) g := by
  have e := law_integer_i A i g
  unfold defD d__law_same
  simp [isNF, finD, e]
theorem same_str (s : Str) (h : PyData.strOk s = true) : defD 3 (d__law_same A psi) [.d (.str s), .d (.str s)] g = .ok (.d (.bl true)) g := by
  unfold defD d__law_same
  simp [isNF, finD, h]
theorem same_tup (ds : List D) (hl : ds.length ≤ 1000000) (hp : ∀ d ∈ ds, ∀ g, psi [.d d, .d d] g = .ok (.d (.bl true)) g) : defD 3 (d__law_same A psi) [.d (.tup ds), .d (.tup ds)] g = .ok (.d (.bl true)) g := by
  obtain ⟨y, e⟩ := same_loop (.tup ds) ds (.inl rfl) A psi hp hl g
  refine defD_rt0 ?_
  unfold d__law_same
  refine (seq_skip (by simp [isNF])).trans ?_
  refine (seq_skip (by simp)).trans ?_
  refine (seq_skip (by simp)).trans ?_
  refine (seq_skip (by simp)).trans ?_
  refine (seq_skip (by simp)).trans ?_
  refine (seq_skip (by simp)).trans ?_
  refine (seq_skip (by simp)).trans ?_
  refine (seq_go e).trans ?_
  exact ret_go rfl
theorem same_lst (ds : List D) (hl : ds.length ≤ 1000000) (hp : ∀ d ∈ ds, ∀ g, psi [.d d, .d d] g = .ok (.d (.bl true)) g) : defD 3 (d__law_same A psi) [.d (.lst ds), .d (.lst ds)] g = .ok (.d (.bl true)) g := by
  obtain ⟨y, e⟩ := same_loop (.lst ds) ds (.inr rfl) A psi hp hl g
  refine defD_rt0 ?_
  unfold d__law_same
  refine (seq_skip (by simp [isNF])).trans ?_
  refine (seq_skip (by simp)).trans ?_
  refine (seq_skip (by simp)).trans ?_
  refine (seq_skip (by simp)).trans ?_
  refine (seq_skip (by simp)).trans ?_
  refine (seq_skip (by simp)).trans ?_
  refine (seq_skip (by simp)).trans ?_
  refine (seq_go e).trans ?_
  exact ret_go rfl
end
theorem same_eq (A : Ad) : ∀ (n : Nat) (d : D), Pl n d → ∀ m, n < m → ∀ g, recD (fun psi => defD 3 (d__law_same A psi)) m [.d d, .d d] g = .ok (.d (.bl true)) g := by
  intro n
  induction n with
  | zero =>
    intro d h m hm g
    obtain ⟨m, rfl⟩ : ∃ k, m = k + 1 := ⟨m - 1, by omega⟩
    show defD 3 (d__law_same A (recD _ m)) _ _ = _
    cases h with
    | non => exact same_non _ _ _
    | bl => exact same_bl _ _ _ _
    | int => exact same_int _ _ _ _
    | str h => exact same_str _ _ _ _ h
  | succ n ih =>
    intro d h m hm g
    obtain ⟨m, rfl⟩ : ∃ k, m = k + 1 := ⟨m - 1, by omega⟩
    show defD 3 (d__law_same A (recD _ m)) _ _ = _
    cases h with
    | non => exact same_non _ _ _
    | bl => exact same_bl _ _ _ _
    | int => exact same_int _ _ _ _
    | str h => exact same_str _ _ _ _ h
    | tup hl h => exact same_tup _ _ _ _ hl fun d hd g => ih d (h d hd) m (by omega) g
    | lst hl h => exact same_lst _ _ _ _ hl fun d hd g => ih d (h d hd) m (by omega) g
theorem pl_dR (r : Rd) (h : r.2.2.length ≤ 1000) : Pl 2 (dR r) := .tup (by simp) fun d hd => by
  simp at hd
  rcases hd with rfl | rfl | rfl
  · exact .int
  · exact .int
  · exact .tup (by simp; omega) fun d hd => by
      obtain ⟨i, _, rfl⟩ := List.mem_map.mp hd
      exact .int
theorem pl_dQ {k m : Int} {rs : List Rd} (h : rs.length ≤ 1000) (hs : ∀ r ∈ rs, r.2.2.length ≤ 1000) : Pl 4 (dQ k m rs) := .tup (by simp) fun d hd => by
  simp at hd
  rcases hd with rfl | rfl | rfl
  · exact .int
  · exact .int
  · exact .tup (by simp; omega) fun d hd => by
      obtain ⟨r, hr, rfl⟩ := List.mem_map.mp hd
      exact pl_dR r (hs r hr)
def toT (r : Rd) : T3 Int Int (Tup Int) := ⟨r.1, r.2.1, ⟨r.2.2⟩⟩
theorem toT_inj : ∀ {rs rs' : List Rd}, rs.map toT = rs'.map toT → rs = rs' := fun {rs rs'} e => (List.map_inj_right (f := toT) (fun x y h => by
  obtain ⟨a, b, c⟩ := x
  obtain ⟨a', b', c'⟩ := y
  unfold toT at h
  injection h with h1 h2 h3
  injection h3 with h3
  dsimp only at h1 h2 h3
  rw [h1, h2, h3])).mp e
theorem enc_Q (k m : Int) (rs : List Rd) : enc (α := T3 Int Int (Tup (T3 Int Int (Tup Int)))) ⟨k, m, ⟨rs.map toT⟩⟩ = dQ k m rs := by
  show D.tup [D.int k, D.int m, D.tup ((rs.map toT).map enc)] = _
  rw [List.map_map]
  rfl
theorem eqQ (k m k' m' : Int) (rs rs' : List Rd) : eqF (dQ k m rs) (dQ k' m' rs') = some (decide (k = k' ∧ m = m' ∧ rs = rs')) := by
  have h := eqF_enc (α := T3 Int Int (Tup (T3 Int Int (Tup Int)))) (by decide) ⟨k, m, ⟨rs.map toT⟩⟩ ⟨k', m', ⟨rs'.map toT⟩⟩
  rw [enc_Q, enc_Q] at h
  rw [h]
  congr 1
  refine decide_eq_decide.mpr ⟨fun e => ?_, fun ⟨a, b, c⟩ => by rw [a, b, c]⟩
  injection e with e1 e2 e3
  injection e3 with e3
  exact ⟨e1, e2, toT_inj e3⟩
section
variable (A : Ad)
theorem isi_prog (hC : A.isC A.Program = true) (k m : Int) (rs : List Rd) (g : G) : isiS A.isC [.d (dP A k m rs), .d (.adr A.Program)] g = .ok (.d (.bl true)) g := by
  simp [isiS, dP, hC]
theorem law_is_eq (hC : A.isC A.Program = true) {k m : Int} {rs : List Rd} (h : rs.length ≤ 1000) (hs : ∀ r ∈ rs, r.2.2.length ≤ 1000) (g : G) : phi__law_is A [.d (dP A k m rs), .d (dQ k m rs)] g = .ok (.d (.bl true)) g := by
  have e := same_eq A 4 _ (pl_dQ (k := k) (m := m) h hs) 6 (by decide) g
  unfold phi__law_is d__law_is defD
  simp [-fldS, isi_prog A hC, fld_sides, fld_tables, fld_readings]
  simp only [dQ] at e
  simp [phi__law_same, dQ, e, finD]
theorem prog_eq (hC : A.isC A.Program = true) (k m k' m' : Int) (rs rs' : List Rd) (g : G) : phi_Program___eq__ A [.d (dP A k m rs), .d (dP A k' m' rs')] g = .ok (.d (.bl (decide (k = k' ∧ m = m' ∧ rs = rs')))) g := by
  have e := eqQ k m k' m' rs rs'
  unfold phi_Program___eq__ d_Program___eq__ defD
  simp only [dQ] at e
  simp [-fldS, isi_prog A hC, fld_sides, fld_tables, fld_readings, e, finD]
theorem prog_ne (hC : A.isC A.Program = true) (k m : Int) (rs : List Rd) (g : G) : neX A.Program (phi_Program___eq__ A) (.d (dP A k m rs)) (.d (dP A k m rs)) g = .ok (.d (.bl false)) g := by
  have e := prog_eq A hC k m k m rs rs g
  have e2 : neX A.Program (phi_Program___eq__ A) (.d (dP A k m rs)) (.d (dP A k m rs)) g = neI A.Program (phi_Program___eq__ A) (.d (dP A k m rs)) (.d (dP A k m rs)) g := rfl
  rw [e2]
  unfold neI
  simp only [snap_d]
  show (if A.Program = A.Program then notF (phi_Program___eq__ A [.d (dP A k m rs), .d (dP A k m rs)] g) else _) = _
  rw [if_pos rfl, e]
  simp
end
end SH
namespace SH
open PySem PySem.Spec DL DLS PySem.W
open L2 hiding keyOf
theorem defD_len {N : Nat} {body : DS} {ss : List S} {g g' : G} {d : D} (h : body (ss.map some ++ List.replicate (N - ss.length) none) g = .rt (.d d) g') (hl : g'.length = g.length) : defD N body ss g = .ok (.d d) g' := by
  rw [defD_rt h]
  unfold finD
  dsimp only
  rw [List.take_of_length_le (Nat.le_of_eq hl)]
section
variable (A : Ad)
theorem some_ok {g : G} {p n : Nat} (T : TapeAt p (n + 1) g) {ds : List D} (h0 : ds ≠ []) (hl : ds.length ≤ 1000000) : ∃ x g', phi__law_some A [.c p, .d (.lst ds)] g = .ok (.d x) g' ∧ Tk p n g g' ∧ x ∈ ds := by
  have pos : 0 < ds.length := List.length_pos_iff.mpr h0
  obtain ⟨v, g1, e1, k1, a1, b1⟩ := draw_ok T (m := (ds.length : Int)) (by omega) (Nat.lt_of_le_of_lt (lg_le (k := 20) (by omega)) (by decide))
  have hlt : v.toNat < ds.length := by omega
  have ix : ixS (.d (.lst ds)) (.d (.int v)) g1 = .ok (.d ds[v.toNat]) g1 := by
    show (match atI ds v with | some x => DL.R.ok (S.d x) g1 | none => DL.R.bad) = _
    rw [atI_get _ a1 b1, List.getElem?_eq_getElem hlt]
  refine ⟨ds[v.toNat], g1, ?_, k1, List.getElem_mem hlt⟩
  unfold phi__law_some d__law_some defD
  simp [e1, ix, finD, take_tk k1]
theorem some_ints {g : G} {p n : Nat} (T : TapeAt p (n + 1) g) {is : List Int} (h0 : is ≠ []) (hl : is.length ≤ 1000000) : ∃ x g', phi__law_some A [.c p, .d (.lst (is.map .int))] g = .ok (.d (.int x)) g' ∧ Tk p n g g' ∧ x ∈ is := by
  obtain ⟨x, g', e, k, m⟩ := some_ok A T (ds := is.map .int) (by simpa using h0) (by simpa using hl)
  obtain ⟨i, hi, rfl⟩ := List.mem_map.mp m
  exact ⟨i, g', e, k, hi⟩
/-- data that are whole numbers -/
theorem ints_of : ∀ {xs : List D} {P : Int → Prop}, (∀ x ∈ xs, ∃ i, x = .int i ∧ P i) → ∃ is : List Int, xs = is.map .int ∧ ∀ i ∈ is, P i
  | [], P, _ => ⟨[], rfl, fun _ h => by cases h⟩
  | x :: xs, P, h => by
    obtain ⟨i, rfl, hi⟩ := h x List.mem_cons_self
    obtain ⟨is, rfl, his⟩ := ints_of (xs := xs) (P := P) fun y hy => h y (List.mem_cons_of_mem _ hy)
    refine ⟨i :: is, rfl, fun j hj => ?_⟩
    rcases List.mem_cons.mp hj with rfl | hj
    · exact hi
    · exact his j hj
abbrev B12 (x : Int) : Prop := -1000000000000 ≤ x ∧ x ≤ 1000000000000
theorem step_ok {g : G} {p n k : Nat} (T : TapeAt p (n + 5) g) (hk : 1 ≤ k) (hk4 : k ≤ 4) : ∃ (st : List Int) (g' : G), phi__law_step A [.c p, .d (.int k)] g = .ok (.d (.tup (st.map .int))) g' ∧ Tk p n g g' ∧ st.length = k ∧ ∀ x ∈ st, B12 x := by
  obtain ⟨v, g1, e1, k1, a1, b1⟩ := draw_ok (n := n + 4) T (m := 6) (by decide) (by decide)
  have T1 := k1.at T
  by_cases h0 : v = 0
  · subst h0
    refine ⟨List.replicate k 0, g1, ?_, k1.mono (by omega), by simp, fun x hx => by rw [List.eq_of_mem_replicate hx]; exact ⟨by decide, by decide⟩⟩
    have e : mulS (.d (.tup [.int 0])) (.d (.int (k : Int))) g1 = .ok (.d (.tup ((List.replicate k 0).map .int))) g1 := by
      unfold mulS
      dsimp only
      rw [if_pos ⟨by simp, by omega, by simp; omega⟩, Int.toNat_natCast]
      congr 4
      clear hk hk4 T
      induction k with
      | zero => rfl
      | succ k ih => rw [List.replicate_succ, List.flatten_cons, ih, List.replicate_succ]; rfl
    refine defD_len ?_ k1.len
    unfold d__law_step
    refine (seq_go (asg_go (s := .d (.int 0)) (g' := g1) (by simp [e1]))).trans ?_
    exact seq_rt (g1 := g1) (by simp) (ret_go (by simp [-List.map_replicate, e]))
  · have len : ∀ g : G, range1 (consL (varD 1) nilL) [some (.c p), some (.d (.int k)), some (.d (.int v)), none] g = .ok (rangeL 0 k) g := fun g => range1_at (by simp) (inR_le (by omega) (by omega))
    have rl : (rangeL 0 (k : Int)).length = k := rangeL_len k
    have fin : ∀ (xs : List D) (g' : G), g'.length = g1.length → xs.length = (rangeL 0 (k : Int)).length → Tk p n g1 g' → (∀ x ∈ xs, ∃ i, x = .int i ∧ B12 i) → (phi__law_step A [.c p, .d (.int k)] g = .ok (.d (.tup xs)) g') → ∃ (st : List Int) (g' : G), phi__law_step A [.c p, .d (.int k)] g = .ok (.d (.tup (st.map .int))) g' ∧ Tk p n g g' ∧ st.length = k ∧ ∀ x ∈ st, B12 x := fun xs g' hg hl kk hb he => by
      obtain ⟨st, rfl, hst⟩ := ints_of hb
      exact ⟨st, g', he, k1.trans kk, by rw [List.length_map, rl] at hl; exact hl, hst⟩
    by_cases h1 : v = 1
    · subst h1
      obtain ⟨xs, g2, e2, l2, l3, ⟨kk, hh⟩⟩ := compD_acc (it := range1 (consL (varD 1) nilL)) (vs := [3]) (h := nameG 3) (t := yesB) (el := d__law_step_c1e A) (ρ := [some (.c p), some (.d (.int k)), some (.d (.int 1)), none]) (g := g1) (g1 := g1) (ds := rangeL 0 (k : Int))
        (fun j acc g' => Tk p (n + j) g1 g' ∧ ∀ x ∈ acc, ∃ i, x = .int i ∧ B12 i) (len g1) ⟨(Tk.refl T1).mono (by rw [rl]; omega), fun x h => by cases h⟩ (fun d hd j acc g' hg ⟨kk, hh⟩ => by
          have T2 : TapeAt p (n + j + 1) g' := (kk.at T1).mono (by omega)
          obtain ⟨x, g3, e3, k3, hx⟩ := some_ints A (n := n + j) (T2.app (r := [.lst acc])) (is := [-1000000000000, 1000000000000, -99999999993, 0, 1]) (by simp) (by simp)
          obtain ⟨g4, rfl, k4⟩ := k3.app T2.lt
          refine ⟨_, .int x, g4, rfl, rfl, ?_, by rw [k4.len]; exact hg, kk.trans k4, fun y hy => ?_⟩
          · simp only [List.map_cons, List.map_nil] at e3
            simp [d__law_step_c1e, e3]
          · rcases List.mem_append.mp hy with hy | hy
            · exact hh y hy
            · simp at hy
              refine ⟨x, hy, ?_⟩
              simp at hx
              unfold B12
              omega) (by rw [rl]; omega)
      refine fin xs g2 l2 l3 (kk.mono (by omega)) hh ?_
      have e4 : d__law_step_c1 A [some (.c p), some (.d (.int k)), some (.d (.int 1)), none] g1 = .ok (.d (.lst xs)) g2 := e2
      refine defD_len ?_ (k1.trans kk).len
      unfold d__law_step
      refine (seq_go (asg_go (s := .d (.int 1)) (g' := g1) (by simp [e1]))).trans ?_
      refine (seq_skip (by simp)).trans ?_
      exact seq_rt (g1 := g1) (by simp) (ret_go (by simp [e4, tupC, rd1]))
    · obtain ⟨xs, g2, e2, l2, l3, ⟨kk, hh⟩⟩ := compD_acc (it := range1 (consL (varD 1) nilL)) (vs := [3]) (h := nameG 3) (t := yesB) (el := d__law_step_c3e A) (ρ := [some (.c p), some (.d (.int k)), some (.d (.int v)), none]) (g := g1) (g1 := g1) (ds := rangeL 0 (k : Int))
        (fun j acc g' => Tk p (n + j) g1 g' ∧ ∀ x ∈ acc, ∃ i, x = .int i ∧ B12 i) (len g1) ⟨(Tk.refl T1).mono (by rw [rl]; omega), fun x h => by cases h⟩ (fun d hd j acc g' hg ⟨kk, hh⟩ => by
          have T2 : TapeAt p (n + j + 1) g' := (kk.at T1).mono (by omega)
          obtain ⟨x, g3, e3, k3, hx0, hx1⟩ := draw_ok (n := n + j) (T2.app (r := [.lst acc])) (m := 5) (by decide) (by decide)
          obtain ⟨g4, rfl, k4⟩ := k3.app T2.lt
          refine ⟨_, .int (x - 2), g4, rfl, rfl, ?_, by rw [k4.len]; exact hg, kk.trans k4, fun y hy => ?_⟩
          · simp [d__law_step_c3e, e3]
          · rcases List.mem_append.mp hy with hy | hy
            · exact hh y hy
            · simp at hy
              refine ⟨x - 2, hy, ?_⟩
              unfold B12
              omega) (by rw [rl]; omega)
      refine fin xs g2 l2 l3 (kk.mono (by omega)) hh ?_
      have e4 : d__law_step_c3 A [some (.c p), some (.d (.int k)), some (.d (.int v)), none] g1 = .ok (.d (.lst xs)) g2 := e2
      refine defD_len ?_ (k1.trans kk).len
      unfold d__law_step
      refine (seq_go (asg_go (s := .d (.int v)) (g' := g1) (by simp [e1]))).trans ?_
      refine (seq_skip (by simp [h0])).trans ?_
      refine (seq_skip (by simp [h1])).trans ?_
      exact ret_go (by simp [e4, tupC, rd1])
end
end SH
namespace SH
open PySem PySem.Spec DL DLS PySem.W
open L2 hiding keyOf
theorem rl_app {g : G} {ds : List D} : readLL (g ++ [.lst ds]) (.c g.length) = some ds := by
  unfold readLL readL
  dsimp only
  rw [app_get]
theorem eraseIdx_map {α β : Type} (f : α → β) : ∀ (l : List α) (i : Nat), (l.eraseIdx i).map f = (l.map f).eraseIdx i
  | [], i => by simp
  | a :: l, 0 => by simp
  | a :: l, i + 1 => by simp [eraseIdx_map f l i]
theorem cons_erase {α : Type} : ∀ (l : List α) (i : Nat) (h : i < l.length), (l[i] :: l.eraseIdx i).Perm l
  | a :: l, 0, h => .refl _
  | a :: l, i + 1, h => by
    have h' : i < l.length := by simpa using h
    have := cons_erase l i h'
    simp only [List.getElem_cons_succ, List.eraseIdx_cons_succ]
    exact (List.Perm.swap _ _ _).trans (this.cons a)
theorem app_get2 (g : G) (c d : Cell) : (g ++ [c] ++ [d])[g.length]? = some c := by
  rw [List.getElem?_append_left (by simp), app_get]
theorem app_set2 (g : G) (c d e : Cell) : (g ++ [c] ++ [d]).set g.length e = g ++ [e] ++ [d] := by
  rw [List.set_append_left _ _ (by simp), app_set]
theorem sortR_ok {k m : Nat} {rs : List Rd} (h : ∀ r ∈ rs, OkR k m r) (hl : rs.length ≤ 24) (h1 : 1 ≤ k) (h4 : k ≤ 4) (m1 : 1 ≤ m) (m8 : m ≤ 8) : OkP k m (sortR rs) :=
  ⟨h1, h4, m1, m8, Nat.le_trans (len_sortR rs) hl, fun r hr => h r ((mem_sortR rs r).mp hr), ord_sortR rs⟩
section
variable (A : Ad)
theorem parts_step {p n c k m j q : Nat} {g4 : G} (T4 : TapeAt p (n + 170) g4) (hk1 : 1 ≤ k) (hk4 : k ≤ 4) (hm1 : 1 ≤ m) (hm8 : m ≤ 8) (hj : j + 1 ≤ 24) {g5 : G} {rs : List Rd} (k5 : Tk p (n + 7 * (j + 1)) g4 g5) (hq : g5.length = q) (hl : rs.length + (j + 1) ≤ 24) (hr : ∀ r ∈ rs, OkR k m r) (y : Option S) :
    ∃ (r : Rd) (g8 : G), d__law_parts_b1 A [some (.c p), some (.d (.int k)), some (.d (.int m)), some (.c q), y] (g5 ++ [.lst (rs.map dR)]) = .nx [some (.c p), some (.d (.int k)), some (.d (.int m)), some (.c q), y] (g8 ++ [.lst ((rs ++ [r]).map dR)]) ∧ Tk p (n + 7 * j) g5 g8 ∧ OkR k m r := by
  have T5 : TapeAt p (n + 7 * j + 6 + 1) g5 := (k5.at T4).mono (by omega)
  obtain ⟨w1, h1, f1, q1, a1, b1⟩ := draw_ok (n := n + 7 * j + 6) (T5.app (r := [.lst (rs.map dR)])) (m := (m : Int)) (by omega) (Nat.lt_of_le_of_lt (lg_le (k := 11) (by omega)) (by decide))
  obtain ⟨g6, rfl, k6⟩ := q1.app T5.lt
  have T6 : TapeAt p (n + 7 * j + 5 + 1) g6 := k6.at T5
  obtain ⟨w2, h2, f2, q2, a2, b2⟩ := draw_ok (n := n + 7 * j + 5) (T6.app (r := [.lst (rs.map dR)])) (m := (m : Int)) (by omega) (Nat.lt_of_le_of_lt (lg_le (k := 11) (by omega)) (by decide))
  obtain ⟨g7, rfl, k7⟩ := q2.app T6.lt
  have T7 : TapeAt p (n + 7 * j + 5) g7 := k7.at T6
  obtain ⟨st, h3, f3, q3, l3, s3⟩ := step_ok A (n := n + 7 * j) (k := k) (T7.app (r := [.lst (rs.map dR)])) (by omega) (by omega)
  obtain ⟨g8, rfl, k8⟩ := q3.app T7.lt
  have len8 : g8.length = q := by rw [k8.len, k7.len, k6.len, hq]
  refine ⟨(w1, w2, st), g8, ?_, ((k6.trans k7).trans k8), ⟨a1, b1⟩, ⟨a2, b2⟩, l3, s3⟩
  have ap := app_ok (g := g8) (acc := rs.map dR) (x := dR (w1, w2, st)) (by rw [List.length_map]; omega)
  have rl := rl_app (g := g5) (ds := rs.map dR)
  rw [hq] at rl
  rw [len8] at ap
  rw [List.map_append]
  unfold d__law_parts_b1
  generalize rs.map dR = ds at *
  simp only [dR] at ap
  have ef : (consL (tupD (consL (callD drawF (consL (varD 0) (consL (varD 2) (nilL)))) (consL (callD drawF (consL (varD 0) (consL (varD 2) (nilL)))) (consL (callD (phi__law_step A) (consL (varD 0) (consL (varD 1) (nilL)))) (nilL))))) (nilL)) [some (.c p), some (.d (.int k)), some (.d (.int m)), some (.c q), y] (g5 ++ [.lst ds]) = .ok [.d (.tup [.int w1, .int w2, .tup (st.map .int)])] (g8 ++ [.lst ds]) := by
    simp [f1, f2, f3]
  unfold exprS mthL
  simp only [varD, List.getElem?_cons_succ, List.getElem?_cons_zero, R.bind_ok, rl]
  rw [ef]
  simp only [R.bind_ok, ap]
  rfl
theorem parts_ok {g : G} {p n : Nat} (T : TapeAt p (n + 200) g) : ∃ (k m : Nat) (rs : List Rd) (g' : G), phi__law_parts A [.c p] g = .ok (.d (dQ k m rs)) g' ∧ Tk p n g g' ∧ OkP k m rs ∧ sortR rs = rs := by
  obtain ⟨v1, g1, e1, k1, a1, b1⟩ := draw_ok (n := n + 199) (T.mono (by omega)) (m := 4) (by decide) (by decide)
  have T1 : TapeAt p (n + 198 + 1) g1 := (k1.at T).mono (by omega)
  obtain ⟨v2, g2, e2, k2, c2⟩ := some_ints A (n := n + 198) T1 (is := [0, 0, 1, 1, 2, 3, 7]) (by simp) (by simp)
  have T2 : TapeAt p (n + 197 + 1) g2 := (k2.at T1).mono (by omega)
  obtain ⟨v3, g3, e3, k3, c3⟩ := some_ints A (n := n + 197) (T2.app (r := [.lst []])) (is := [0, 1, 2, 3, 4, 5, 6, 24]) (by simp) (by simp)
  obtain ⟨g4, rfl, k4⟩ := k3.app T2.lt
  have T4 := k4.at T2
  simp only [List.map_cons, List.map_nil] at e2 e3
  have hv3 : 0 ≤ v3 ∧ v3 ≤ 24 := by simp at c3; omega
  have hv2 : 0 ≤ v2 ∧ v2 ≤ 7 := by simp at c2; omega
  obtain ⟨c, rfl⟩ : ∃ c : Nat, v3 = c := ⟨v3.toNat, by omega⟩
  obtain ⟨k, hk⟩ : ∃ k : Nat, 1 + v1 = k := ⟨(1 + v1).toNat, by omega⟩
  obtain ⟨m, hm⟩ : ∃ m : Nat, 1 + v2 = m := ⟨(1 + v2).toNat, by omega⟩
  have len1 : g1.length = g.length := k1.len
  have len2 : g2.length = g.length := by rw [k2.len, len1]
  have len4 : g4.length = g.length := by rw [k4.len, len2]
  have loop := loopS_inv (nameG 4) (d__law_parts_b1 A) (fun j ρ g' => (∃ g5 rs, g' = g5 ++ [.lst (rs.map dR)] ∧ Tk p (n + 7 * j) g4 g5 ∧ rs.length + j ≤ 24 ∧ ∀ r ∈ rs, OkR k m r) ∧ ∃ y, ρ = [some (.c p), some (.d (.int k)), some (.d (.int m)), some (.c g.length), y]) (fun _ _ => False) (rangeL 0 (c : Int))
    [some (.c p), some (.d (.int k)), some (.d (.int m)), some (.c g.length), none] (g4 ++ [.lst []]) ⟨⟨g4, [], rfl, (Tk.refl T4).mono (by rw [rangeL_len]; omega), by rw [rangeL_len]; simp; omega, fun r h => by cases h⟩, none, rfl⟩ (fun d hd j ρ g' ⟨⟨g5, rs, e5, k5, hl, hr⟩, y, e6⟩ => by
      subst e5; subst e6
      obtain ⟨r, g8, e, k8, hr8⟩ := parts_step A (p := p) (n := n) (c := c) (k := k) (m := m) (j := j) (q := g.length) (T4.mono (by omega)) (by omega) (by omega) (by omega) (by omega) (by omega) k5 (by rw [k5.len, len4]) hl hr (some (.d d))
      refine ⟨[some (.c p), some (.d (.int k)), some (.d (.int m)), some (.c g.length), some (.d d)], rfl, .inl ⟨[some (.c p), some (.d (.int k)), some (.d (.int m)), some (.c g.length), some (.d d)], g8 ++ [Cell.lst ((rs ++ [r]).map dR)], e, ⟨g8, rs ++ [r], rfl, k5.trans k8, by rw [List.length_append]; simp; omega, fun r' h => ?_⟩, _, rfl⟩⟩
      rcases List.mem_append.mp h with h | h
      · exact hr r' h
      · simp at h
        subst h
        exact hr8)
  rcases loop with ⟨ρ2, g9, e9, ⟨g5, rs, rfl, k5, hl, hr⟩, y, rfl⟩ | ⟨_, _, _, z⟩
  · have len5 : g5.length = g.length := by rw [k5.len, len4]
    refine ⟨k, m, sortR rs, g5, ?_, (((k1.trans k2).trans k4).trans k5).mono (by omega), sortR_ok hr (by omega) (by omega) (by omega) (by omega) (by omega), sortR_ext fun r => mem_sortR rs r⟩
    have rl := rl_app (g := g5) (ds := rs.map dR)
    rw [len5] at rl
    have e10 := sortSet_at (f := varD 3) (ρ := [some (.c p), some (.d (.int k)), some (.d (.int m)), some (.c g.length), y]) (g := g5 ++ [.lst (rs.map dR)]) (by simp) rl (by omega)
    have r1 : ∀ (f : DE S) (ρ : DL.Env) (h : G), f ρ h = .ok (.d (.int c)) (g4 ++ [.lst []]) → range1 (consL f nilL) ρ h = .ok (rangeL 0 c) (g4 ++ [.lst []]) := fun f ρ h e => by
      have e' : consL f nilL ρ h = .ok [.d (.int c)] (g4 ++ [.lst []]) := by
        unfold consL
        rw [e]
        rfl
      unfold range1
      rw [e']
      dsimp only [R.bind]
      rw [inR_le (by omega) (by omega)]
      rfl
    have tk : (g5 ++ [Cell.lst (rs.map dR)]).take g.length = g5 := by rw [← len5, app_take]
    have l5 : g5.length = g.length := len5
    refine defD_rt (g' := g5 ++ [Cell.lst (rs.map dR)]) (s := .d (dQ k m (sortR rs))) ?_ |>.trans (by
      unfold finD
      dsimp only
      rw [tk])
    unfold d__law_parts
    refine (seq_go (asg_go (s := .d (.int k)) (g' := g1) (by simp [e1, hk]))).trans ?_
    refine (seq_go (asg_go (s := .d (.int m)) (g' := g2) (by simp [e2, hm]))).trans ?_
    refine (seq_go (asg_go (s := .c g.length) (g' := g2 ++ [Cell.lst []]) (by simp [len2]))).trans ?_
    refine (seq_go (ρ' := [some (.c p), some (.d (.int k)), some (.d (.int m)), some (.c g.length), y]) (g' := g5 ++ [Cell.lst (rs.map dR)]) ?_).trans ?_
    · unfold forS
      rw [r1 _ _ _ (by simp [e3])]
      exact e9
    · exact ret_go (by simp [-sortSetD, e10, tupC, rd1, dQ])
  · exact z.elim
theorem mixed_ok {g : G} {p n : Nat} {ns : List Int} (T : TapeAt p (n + ns.length) g) (hl : ns.length ≤ 1000) : ∃ (ms : List Int) (g' : G), phi__law_mixed A [.c p, .d (.lst (ns.map .int))] g = .ok (.d (.lst (ms.map .int))) g' ∧ Tk p n g g' ∧ ms.Perm ns := by
  have rl : (rangeL 0 (ns.length : Int)).length = ns.length := rangeL_len _
  obtain ⟨xs, g2, e2, l2, l3, ⟨gt, left, dn, rfl, k2, rfl, ll, pm⟩⟩ := compD_acc (it := range1 (consL (cbD (un1 lenD) (consL (varD 1) nilL)) nilL)) (vs := [3]) (h := nameG 3) (t := yesB) (el := d__law_mixed_c1e A) (ρ := [some (.c p), some (.d (.lst (ns.map .int))), some (.c g.length), none]) (g := g ++ [.lst (ns.map .int)]) (g1 := g ++ [.lst (ns.map .int)]) (ds := rangeL 0 (ns.length : Int))
    (fun j acc g' => ∃ (gt : G) (left dn : List Int), g' = gt ++ [.lst (left.map .int)] ∧ Tk p (n + j) g gt ∧ acc = dn.map D.int ∧ left.length = j ∧ (dn ++ left).Perm ns)
    (range1_at (by simp) (inR_le (by omega) (by omega))) ⟨g, ns, [], rfl, (Tk.refl T).mono (by rw [rl]; omega), rfl, rl.symm, .refl _⟩ (fun d hd j acc g' hg ⟨gt, left, dn, e1, k1, e3, ll, pm⟩ => by
      subst e1; subst e3
      have T1 : TapeAt p (n + j + 1) gt := (k1.at T).mono (by omega)
      have lent : gt.length = g.length := k1.len
      obtain ⟨v, g3, f1, q1, a1, b1⟩ := draw_ok (n := n + j) ((T1.app (r := [.lst (left.map .int)])).app (r := [.lst (dn.map .int)])) (m := (left.length : Int)) (by omega) (Nat.lt_of_le_of_lt (lg_le (k := 20) (by have := pm.length_eq; rw [List.length_append] at this; omega)) (by decide))
      obtain ⟨g4, rfl, k4⟩ := q1.app (T1.app (r := [.lst (left.map .int)])).lt
      obtain ⟨g5, rfl, k5⟩ := k4.app T1.lt
      have len5 : g5.length = g.length := by rw [k5.len, lent]
      have hlt : v.toNat < left.length := by omega
      have si : seqIndex? v (left.map D.int).length = some v.toNat := by
        unfold seqIndex?
        simp
        omega
      have pop : popIS (.c g.length) [.d (.int v)] (g5 ++ [.lst (left.map .int)] ++ [.lst (dn.map .int)]) = .ok (.d (.int left[v.toNat])) (g5 ++ [.lst ((left.eraseIdx v.toNat).map .int)] ++ [.lst (dn.map .int)]) := by
        have ag := app_get2 g5 (.lst (left.map .int)) (.lst (dn.map .int))
        have as := app_set2 g5 (.lst (left.map .int)) (.lst (dn.map .int)) (.lst ((left.eraseIdx v.toNat).map .int))
        rw [len5] at ag as
        unfold popIS
        dsimp only
        rw [if_pos (inR_le (by omega) (by have := pm.length_eq; rw [List.length_append] at this; omega)), ag]
        dsimp only
        rw [si]
        dsimp only
        rw [List.getElem?_map, List.getElem?_eq_getElem hlt]
        dsimp only [Option.map_some]
        rw [← eraseIdx_map, as]
      refine ⟨_, .int left[v.toNat], g5 ++ [.lst ((left.eraseIdx v.toNat).map .int)], rfl, rfl, ?_, by simp [len5], g5, left.eraseIdx v.toNat, dn ++ [left[v.toNat]], rfl, k1.trans k5, by simp, by rw [List.length_eraseIdx_of_lt hlt, ll]; rfl, ?_⟩
      · have ag := app_get2 gt (.lst (left.map .int)) (.lst (dn.map .int))
        rw [lent] at ag
        have sn : snap (gt ++ [.lst (left.map .int)] ++ [.lst (dn.map .int)]) (.c g.length) = some (.lst (left.map .int)) := by
          show snapC _ = _
          rw [ag]; rfl
        have rr : readLL (gt ++ [.lst (left.map .int)] ++ [.lst (dn.map .int)]) (.c g.length) = some (left.map .int) := by
          unfold readLL readL
          dsimp only
          rw [ag]
        generalize gt ++ [.lst (left.map .int)] ++ [.lst (dn.map .int)] = GA at *
        generalize g5 ++ [.lst (left.map .int)] ++ [.lst (dn.map .int)] = GB at *
        generalize g5 ++ [.lst ((left.eraseIdx v.toNat).map .int)] ++ [.lst (dn.map .int)] = GC at *
        simp [d__law_mixed_c1e, mthL, rr, sn, f1, pop]
      · refine List.Perm.trans ?_ pm
        rw [List.append_assoc]
        exact List.Perm.append_left _ (cons_erase _ _ hlt)) (by rw [rl]; omega)
  have lent : gt.length = g.length := k2.len
  have : left = [] := List.eq_nil_of_length_eq_zero ll
  subst this
  rw [List.append_nil] at pm
  refine ⟨dn, gt, ?_, k2.mono (by omega), pm⟩
  have tk : (gt ++ [Cell.lst (([] : List Int).map .int)]).take g.length = gt := by rw [← lent, app_take]
  have e4 : d__law_mixed_c1 A [some (.c p), some (.d (.lst (ns.map .int))), some (.c g.length), none] (g ++ [.lst (ns.map .int)]) = .ok (.d (.lst (dn.map .int))) (gt ++ [.lst (([] : List Int).map .int)]) := e2
  unfold phi__law_mixed d__law_mixed defD
  simp [lstCC, e4]
  simp [finD]
  rw [← lent, app_take]
end
end SH
namespace Lk03
open PySem PySem.Spec PyProof.Rows L2 DL

def top (i : Nat) : Stmt := PySem.Challenge.pw_turnsneeded_k03_whole_steps_turned_and_s.main.body.getD i (.Pass ⟨0, 0, 0, 0⟩)
abbrev s__law_pool : Stmt := top 26
abbrev s__law_draw : Stmt := top 27
abbrev s__law_some : Stmt := top 28
abbrev s__law_step : Stmt := top 31
abbrev s__law_parts : Stmt := top 32
abbrev s_is_integer : Stmt := top 6
abbrev s_is_within : Stmt := top 7
abbrev s_is_triple : Stmt := top 8
abbrev s_are_integers : Stmt := top 9
abbrev s_are_within : Stmt := top 10
abbrev s_is_reading : Stmt := top 18
abbrev s_Program_keep : Stmt := inClass (top 19) 1
abbrev s_Program___init__ : Stmt := inClass (top 19) 0
abbrev s__law_program : Stmt := top 33
abbrev s__law_doings : Stmt := top 37
abbrev s__law_plain_matrix : Stmt := top 36
abbrev s__law_done : Stmt := top 38
abbrev s__law_matrix : Stmt := top 39
abbrev s_determinant : Stmt := top 21
abbrev s_dot : Stmt := top 22
abbrev s_program_of : Stmt := top 20
abbrev s_turned : Stmt := top 23
abbrev s__law_integer : Stmt := top 29
abbrev s__law_same : Stmt := top 30
abbrev s__law_is : Stmt := top 34
abbrev s__law_led : Stmt := top 40
abbrev s__law_sorted_parts : Stmt := top 35
abbrev s__law_turned : Stmt := top 41
abbrev s_Program___eq__ : Stmt := inClass (top 19) 2
abbrev s_check_number : Stmt := top 11
abbrev s_stretched : Stmt := top 24
abbrev s_law : Stmt := top 42
theorem bt_abs : bootBuiltins "abs" = some (.builtin "abs") := by decide +kernel
theorem bt_all : bootBuiltins "all" = some (.builtin "all") := by decide +kernel
theorem bt_bool : bootBuiltins "bool" = some (.type "bool") := by decide +kernel
theorem bt_enumerate : bootBuiltins "enumerate" = some (.type "enumerate") := by decide +kernel
theorem bt_int : bootBuiltins "int" = some (.type "int") := by decide +kernel
theorem bt_isinstance : bootBuiltins "isinstance" = some (.builtin "isinstance") := by decide +kernel
theorem bt_len : bootBuiltins "len" = some (.builtin "len") := by decide +kernel
theorem bt_list : bootBuiltins "list" = some (.type "list") := by decide +kernel
theorem bt_range : bootBuiltins "range" = some (.type "range") := by decide +kernel
theorem bt_set : bootBuiltins "set" = some (.type "set") := by decide +kernel
theorem bt_sorted : bootBuiltins "sorted" = some (.builtin "sorted") := by decide +kernel
theorem bt_str : bootBuiltins "str" = some (.type "str") := by decide +kernel
theorem bt_sum : bootBuiltins "sum" = some (.builtin "sum") := by decide +kernel
theorem bt_tuple : bootBuiltins "tuple" = some (.type "tuple") := by decide +kernel
theorem bt_zip : bootBuiltins "zip" = some (.type "zip") := by decide +kernel
structure Ad where
  _law_pool : Addr
  _law_draw : Addr
  _law_some : Addr
  _law_step : Addr
  _law_parts : Addr
  is_integer : Addr
  is_within : Addr
  is_triple : Addr
  are_integers : Addr
  are_within : Addr
  is_reading : Addr
  Program_keep : Addr
  Program___init__ : Addr
  _law_program : Addr
  _law_doings : Addr
  _law_plain_matrix : Addr
  _law_done : Addr
  _law_matrix : Addr
  determinant : Addr
  dot : Addr
  program_of : Addr
  turned : Addr
  _law_integer : Addr
  _law_same : Addr
  _law_is : Addr
  _law_led : Addr
  _law_sorted_parts : Addr
  _law_turned : Addr
  Program___eq__ : Addr
  check_number : Addr
  stretched : Addr
  law : Addr
  Program : Addr
  BadProgram : Addr
  NoMatrix : Addr
  NoNumber : Addr
  BadProgram_init : Addr
  BadProgram_cc : Addr
  NoMatrix_init : Addr
  NoMatrix_cc : Addr
  NoNumber_init : Addr
  NoNumber_cc : Addr
structure Fd where
  _law_pool : FuncData
  _law_draw : FuncData
  _law_some : FuncData
  _law_step : FuncData
  _law_parts : FuncData
  is_integer : FuncData
  is_within : FuncData
  is_triple : FuncData
  are_integers : FuncData
  are_within : FuncData
  is_reading : FuncData
  Program_keep : FuncData
  Program___init__ : FuncData
  _law_program : FuncData
  _law_doings : FuncData
  _law_plain_matrix : FuncData
  _law_done : FuncData
  _law_matrix : FuncData
  determinant : FuncData
  dot : FuncData
  program_of : FuncData
  turned : FuncData
  _law_integer : FuncData
  _law_same : FuncData
  _law_is : FuncData
  _law_led : FuncData
  _law_sorted_parts : FuncData
  _law_turned : FuncData
  Program___eq__ : FuncData
  check_number : FuncData
  stretched : FuncData
  law : FuncData
def isC (A : Ad) : Addr → Bool := fun C => decide (C = A.Program)
def xtab (A : Ad) : ExT := []
































noncomputable def d__law_pool_b1 (A : Ad) : DS :=
  asgS 1 (bin2 (cbD (un1 intD) (consL (bin2 (bin2 (bin2 (varD 1) (cD (.int 48271)) mulS) (bin2 (cbD (un1 intD) (consL (varD 2) (nilL))) (cD (.int 2147483629)) (opD modD)) addS) (cD (.int 11)) addS) (nilL))) (cD (.int 2147483647)) (opD modD))
noncomputable def d__law_pool_c2e (A : Ad) : DE S :=
  cbD (un1 absD) (consL (varD 2) (nilL))
noncomputable def d__law_pool_c2t (A : Ad) : DE Bool :=
  asB (bin2 (cbD (un1 absD) (consL (varD 2) (nilL))) (bin2 (cD (.int 10)) (cD (.int 18)) (opD powD)) (opD geD))
noncomputable def d__law_pool_c2 (A : Ad) : DE S :=
  compC (seqI (slD (varD 0) (noO) (someO (cD (.int 63))))) [2] (nameG 2) (d__law_pool_c2t A) (d__law_pool_c2e A)
noncomputable def d__law_pool (A : Ad) : DS :=
  seqS (asgS 1 (bin2 (bin2 (bin2 (cbD (un1 intD) (consL (cbD (un1 sumD) (consL (slD (varD 0) (noO) (someO (cD (.int 1)))) (nilL))) (nilL))) (cD (.int 1000003)) (opD modD)) (cbD (un1 lenD) (consL (varD 0) (nilL))) addS) (cD (.int 1)) addS)) (seqS (forS (seqI (slD (varD 0) (noO) (someO (cD (.int 63))))) (nameG 2) (d__law_pool_b1 A)) (retS (tapD (consL (varD 1) (consL (cD (.int 0)) (consL (d__law_pool_c2 A) (nilL)))))))
noncomputable def phi__law_pool (A : Ad) : DF := defC 3 (d__law_pool A)
noncomputable def d__law_draw (A : Ad) : DS :=
  seqS (putSt (varD 0) (cD (.int 1)) (bin2 (bin2 (varD 0) (cD (.int 1)) ixS) (cD (.int 1)) addS)) (seqS (asgS 2 (bin2 (varD 0) (cD (.int 2)) ixS)) (seqS (ifS (asB (bin2 (cbD (un1 lenD) (consL (varD 2) (nilL))) (cD (.int 0)) (opD gtD))) (seqS (asgS 4 (bin2 (cbD (un1 intD) (consL (bin2 (varD 2) (cD (.int 0)) ixS) (nilL))) (varD 1) (opD modD))) (seqS (putSt (varD 2) (cD (.int 0)) (bin2 (cbD (un1 intD) (consL (bin2 (varD 2) (cD (.int 0)) ixS) (nilL))) (varD 1) (opD divD))) (seqS (ifS (asB (bin2 (bin2 (varD 2) (cD (.int 0)) ixS) (cD (.int 0)) (opD eqD))) (exprS (mthL popIS (varD 2) (consL (cD (.int 0)) (nilL)))) (nextS)) (retS (varD 4))))) (nextS)) (seqS (asgS 3 (bin2 (cbD (un1 intD) (consL (bin2 (bin2 (bin2 (varD 0) (cD (.int 0)) ixS) (bin2 (cD (.int 7919)) (bin2 (varD 0) (cD (.int 1)) ixS) mulS) addS) (cD (.int 48271)) mulS) (nilL))) (cD (.int 2147483647)) (opD modD))) (seqS (asgS 3 (bin2 (cbD (un1 intD) (consL (bin2 (varD 3) (bin2 (bin2 (varD 3) (cD (.int 1009)) (opD divD)) (cD (.int 69621)) addS) mulS) (nilL))) (cD (.int 2147483647)) (opD modD))) (seqS (asgS 3 (bin2 (cbD (un1 intD) (consL (bin2 (varD 3) (bin2 (bin2 (varD 3) (cD (.int 2003)) (opD divD)) (cD (.int 40692)) addS) mulS) (nilL))) (cD (.int 2147483399)) (opD modD))) (retS (bin2 (cbD (un1 intD) (consL (bin2 (varD 3) (cD (.int 16)) (opD divD)) (nilL))) (varD 1) (opD modD))))))))
noncomputable def phi__law_draw (A : Ad) : DF := defD 5 (d__law_draw A)
noncomputable def d__law_some (A : Ad) : DS :=
  retS (bin2 (varD 1) (callD (phi__law_draw A) (consL (varD 0) (consL (cbD (un1 lenD) (consL (varD 1) (nilL))) (nilL)))) ixS)
noncomputable def phi__law_some (A : Ad) : DF := defD 2 (d__law_some A)
noncomputable def d__law_step_c1e (A : Ad) : DE S :=
  callD (phi__law_some A) (consL (varD 0) (consL (lstD (consL (un1D negS (bin2 (cD (.int 10)) (cD (.int 12)) (opD powD))) (consL (bin2 (cD (.int 10)) (cD (.int 12)) (opD powD)) (consL (bin2 (cD (.int 7)) (bin2 (cD (.int 10)) (cD (.int 11)) (opD powD)) (opD subD)) (consL (cD (.int 0)) (consL (cD (.int 1)) (nilL))))))) (nilL)))
noncomputable def d__law_step_c1 (A : Ad) : DE S :=
  compD (range1 (consL (varD 1) (nilL))) [3] (nameG 3) (yesB) (d__law_step_c1e A)
noncomputable def d__law_step_c3e (A : Ad) : DE S :=
  bin2 (callD (phi__law_draw A) (consL (varD 0) (consL (cD (.int 5)) (nilL)))) (cD (.int 2)) (opD subD)
noncomputable def d__law_step_c3 (A : Ad) : DE S :=
  compD (range1 (consL (varD 1) (nilL))) [3] (nameG 3) (yesB) (d__law_step_c3e A)
noncomputable def d__law_step (A : Ad) : DS :=
  seqS (asgS 2 (callD (phi__law_draw A) (consL (varD 0) (consL (cD (.int 6)) (nilL))))) (seqS (ifS (asB (bin2 (varD 2) (cD (.int 0)) (opD eqD))) (retS (bin2 (tupD (consL (cD (.int 0)) (nilL))) (varD 1) mulS)) (nextS)) (seqS (ifS (asB (bin2 (varD 2) (cD (.int 1)) (opD eqD))) (retS (cbD (tupC) (consL (d__law_step_c1 A) (nilL)))) (nextS)) (retS (cbD (tupC) (consL (d__law_step_c3 A) (nilL))))))
noncomputable def phi__law_step (A : Ad) : DF := defD 4 (d__law_step A)
noncomputable def d__law_parts_b1 (A : Ad) : DS :=
  exprS (mthL appS (varD 3) (consL (tupD (consL (callD (phi__law_draw A) (consL (varD 0) (consL (varD 2) (nilL)))) (consL (callD (phi__law_draw A) (consL (varD 0) (consL (varD 2) (nilL)))) (consL (callD (phi__law_step A) (consL (varD 0) (consL (varD 1) (nilL)))) (nilL))))) (nilL)))
noncomputable def d__law_parts (A : Ad) : DS :=
  seqS (asgS 1 (bin2 (cD (.int 1)) (callD (phi__law_draw A) (consL (varD 0) (consL (cD (.int 4)) (nilL)))) addS)) (seqS (asgS 2 (bin2 (cD (.int 1)) (callD (phi__law_some A) (consL (varD 0) (consL (lstD (consL (cD (.int 0)) (consL (cD (.int 0)) (consL (cD (.int 1)) (consL (cD (.int 1)) (consL (cD (.int 2)) (consL (cD (.int 3)) (consL (cD (.int 7)) (nilL))))))))) (nilL)))) addS)) (seqS (asgS 3 (celD (nilL))) (seqS (forS (range1 (consL (callD (phi__law_some A) (consL (varD 0) (consL (lstD (consL (cD (.int 0)) (consL (cD (.int 1)) (consL (cD (.int 2)) (consL (cD (.int 3)) (consL (cD (.int 4)) (consL (cD (.int 5)) (consL (cD (.int 6)) (consL (cD (.int 24)) (nilL)))))))))) (nilL)))) (nilL))) (nameG 4) (d__law_parts_b1 A)) (retS (tupD (consL (varD 1) (consL (varD 2) (consL (cbD (tupC) (consL (DLS.sortSetD (varD 3)) (nilL))) (nilL)))))))))
noncomputable def phi__law_parts (A : Ad) : DF := defD 5 (d__law_parts A)
noncomputable def d_is_integer (A : Ad) : DS :=
  retS (andV (cbD (isiS (isC A)) (consL (varD 0) (consL (cD (.typ "int")) (nilL)))) (notV (cbD (isiS (isC A)) (consL (varD 0) (consL (cD (.typ "bool")) (nilL))))))
noncomputable def phi_is_integer (A : Ad) : DF := defD 1 (d_is_integer A)
noncomputable def d_is_within (A : Ad) : DS :=
  retS (andV (callD (phi_is_integer A) (consL (varD 0) (nilL))) (chD (opD leD) (opD leD) (varD 1) (varD 0) (varD 2)))
noncomputable def phi_is_within (A : Ad) : DF := defD 3 (d_is_within A)
noncomputable def d_is_triple (A : Ad) : DS :=
  retS (andV (cbD (isiS (isC A)) (consL (varD 0) (consL (cD (.typ "tuple")) (nilL)))) (bin2 (cbD (un1 lenD) (consL (varD 0) (nilL))) (cD (.int 3)) (opD eqD)))
noncomputable def phi_is_triple (A : Ad) : DF := defD 1 (d_is_triple A)
noncomputable def d_are_integers_c1e (A : Ad) : DE S :=
  callD (phi_is_integer A) (consL (varD 2) (nilL))
noncomputable def d_are_integers_c1 (A : Ad) : DE S :=
  compD (seqI (varD 0)) [2] (nameG 2) (yesB) (d_are_integers_c1e A)
noncomputable def d_are_integers (A : Ad) : DS :=
  retS (andV (cbD (isiS (isC A)) (consL (varD 0) (consL (cD (.typ "tuple")) (nilL)))) (andV (bin2 (cbD (un1 lenD) (consL (varD 0) (nilL))) (varD 1) (opD eqD)) (cbD (un1 allF) (consL (d_are_integers_c1 A) (nilL)))))
noncomputable def phi_are_integers (A : Ad) : DF := defD 3 (d_are_integers A)
noncomputable def d_are_within_c1e (A : Ad) : DE S :=
  chD (opD leD) (opD leD) (varD 2) (varD 4) (varD 3)
noncomputable def d_are_within_c1 (A : Ad) : DE S :=
  compD (seqI (varD 0)) [4] (nameG 4) (yesB) (d_are_within_c1e A)
noncomputable def d_are_within (A : Ad) : DS :=
  retS (andV (callD (phi_are_integers A) (consL (varD 0) (consL (varD 1) (nilL)))) (cbD (un1 allF) (consL (d_are_within_c1 A) (nilL))))
noncomputable def phi_are_within (A : Ad) : DF := defD 5 (d_are_within A)
noncomputable def d_is_reading (A : Ad) : DS :=
  seqS (ifS (orB (notB (asB (callD (phi_is_triple A) (consL (varD 2) (nilL))))) (orB (notB (asB (callD (phi_is_within A) (consL (bin2 (varD 2) (cD (.int 0)) ixS) (consL (cD (.int 0)) (consL (bin2 (varD 1) (cD (.int 1)) (opD subD)) (nilL))))))) (notB (asB (callD (phi_is_within A) (consL (bin2 (varD 2) (cD (.int 1)) ixS) (consL (cD (.int 0)) (consL (bin2 (varD 1) (cD (.int 1)) (opD subD)) (nilL))))))))) (retS (cD (.bl false))) (nextS)) (retS (callD (phi_are_within A) (consL (bin2 (varD 2) (cD (.int 2)) ixS) (consL (varD 0) (consL (un1D negS (cD (.int 1000000000000))) (consL (cD (.int 1000000000000)) (nilL)))))))
noncomputable def phi_is_reading (A : Ad) : DF := defD 3 (d_is_reading A)
noncomputable def d_Program_keep (A : Ad) : DS :=
  seqS (sfldS A.Program "sides" (varD 0) (varD 1)) (seqS (sfldS A.Program "tables" (varD 0) (varD 2)) (sfldS A.Program "readings" (varD 0) (varD 3)))
noncomputable def phi_Program_keep (A : Ad) : DF := defD 4 (d_Program_keep A)
noncomputable def d_Program___init___b1 (A : Ad) : DS :=
  ifS (orB (notB (asB (callD (phi_is_reading A) (consL (varD 1) (consL (varD 2) (consL (varD 5) (nilL))))))) (andB (asB (bin2 (varD 4) (cD (.int 0)) (opD gtD))) (asB (bin2 (varD 5) (bin2 (varD 3) (bin2 (varD 4) (cD (.int 1)) (opD subD)) ixS) (opD leX))))) (raise1 A.BadProgram "part" (varD 4)) (nextS)
noncomputable def d_Program___init__ (A : Ad) : DS :=
  seqS (ifS (notB (asB (callD (phi_is_within A) (consL (varD 1) (consL (cD (.int 1)) (consL (cD (.int 4)) (nilL))))))) (raise1 A.BadProgram "part" (cD (.str "sides"))) (nextS)) (seqS (ifS (notB (asB (callD (phi_is_within A) (consL (varD 2) (consL (cD (.int 1)) (consL (cD (.int 8)) (nilL))))))) (raise1 A.BadProgram "part" (cD (.str "tables"))) (nextS)) (seqS (ifS (orB (notB (asB (cbD (isiS (isC A)) (consL (varD 3) (consL (cD (.typ "tuple")) (nilL)))))) (asB (bin2 (cbD (un1 lenD) (consL (varD 3) (nilL))) (cD (.int 24)) (opD gtD)))) (raise1 A.BadProgram "part" (cD (.str "readings"))) (nextS)) (seqS (forS (enumI (consL (varD 3) (nilL))) (tupG 2 (consG (nameG 4) (consG (nameG 5) (nilG)))) (d_Program___init___b1 A)) (exprS (methF A.Program "keep" (phi_Program_keep A) (varD 0) (consL (varD 1) (consL (varD 2) (consL (varD 3) (nilL)))))))))
noncomputable def phi_Program___init__ (A : Ad) : DF := defD 6 (d_Program___init__ A)
noncomputable def d__law_program (A : Ad) : DS :=
  retS (frzD (makeC A.Program (phi_Program___init__ A) (consL (bin2 (varD 0) (cD (.int 0)) ixS) (consL (bin2 (varD 0) (cD (.int 1)) ixS) (consL (bin2 (varD 0) (cD (.int 2)) ixS) (nilL))))))
noncomputable def phi__law_program (A : Ad) : DF := defD 1 (d__law_program A)
noncomputable def d__law_doings_b1 (A : Ad) : DS :=
  seqS (asgS 4 (callD (phi__law_draw A) (consL (varD 0) (consL (varD 1) (nilL))))) (seqS (asgS 5 (callD (phi__law_draw A) (consL (varD 0) (consL (varD 1) (nilL))))) (ifS (asB (bin2 (varD 4) (varD 5) (opD eqD))) (exprS (mthL appS (varD 2) (consL (tupD (consL (varD 4) (consL (varD 4) (consL (cD (.int 0)) (nilL))))) (nilL)))) (exprS (mthL appS (varD 2) (consL (tupD (consL (varD 4) (consL (varD 5) (consL (callD (phi__law_some A) (consL (varD 0) (consL (lstD (consL (cD (.int 0)) (consL (cD (.int 1)) (consL (un1D negS (cD (.int 1))) (consL (cD (.int 2)) (consL (un1D negS (cD (.int 3))) (consL (bin2 (cD (.int 10)) (cD (.int 6)) (opD powD)) (nilL)))))))) (nilL)))) (nilL))))) (nilL))))))
noncomputable def d__law_doings (A : Ad) : DS :=
  seqS (asgS 2 (celD (nilL))) (seqS (forS (range1 (consL (callD (phi__law_draw A) (consL (varD 0) (consL (cD (.int 5)) (nilL)))) (nilL))) (nameG 3) (d__law_doings_b1 A)) (retS (varD 2)))
noncomputable def phi__law_doings (A : Ad) : DF := defD 6 (d__law_doings A)
noncomputable def d__law_plain_matrix_c1e (A : Ad) : DE S :=
  cbD (un1 intD) (consL (bin2 (varD 1) (varD 2) (opD eqD)) (nilL))
noncomputable def d__law_plain_matrix_c1 (A : Ad) : DE S :=
  compD (range1 (consL (varD 0) (nilL))) [2] (nameG 2) (yesB) (d__law_plain_matrix_c1e A)
noncomputable def d__law_plain_matrix_c3e (A : Ad) : DE S :=
  d__law_plain_matrix_c1 A
noncomputable def d__law_plain_matrix_c3 (A : Ad) : DE S :=
  compD (range1 (consL (varD 0) (nilL))) [1] (nameG 1) (yesB) (d__law_plain_matrix_c3e A)
noncomputable def d__law_plain_matrix (A : Ad) : DS :=
  retS (d__law_plain_matrix_c3 A)
noncomputable def phi__law_plain_matrix (A : Ad) : DF := defD 3 (d__law_plain_matrix A)
noncomputable def d__law_done_c1e (A : Ad) : DE S :=
  cbD lstC (consL (varD 6) (nilL))
noncomputable def d__law_done_c1 (A : Ad) : DE S :=
  compC (seqI (varD 0)) [6] (nameG 6) (yesB) (d__law_done_c1e A)
noncomputable def d__law_done_c3e (A : Ad) : DE S :=
  bin2 (cD (.int 0)) (varD 7) (opD subD)
noncomputable def d__law_done_c3 (A : Ad) : DE S :=
  compD (seqI (bin2 (varD 0) (varD 3) ixS)) [7] (nameG 7) (yesB) (d__law_done_c3e A)
noncomputable def d__law_done_c5e (A : Ad) : DE S :=
  bin2 (bin2 (bin2 (varD 0) (varD 3) ixS) (varD 8) ixS) (bin2 (varD 5) (bin2 (bin2 (varD 0) (varD 4) ixS) (varD 8) ixS) mulS) addS
noncomputable def d__law_done_c5 (A : Ad) : DE S :=
  compD (range1 (consL (cbD (un1 lenD) (consL (varD 0) (nilL))) (nilL))) [8] (nameG 8) (yesB) (d__law_done_c5e A)
noncomputable def d__law_done (A : Ad) : DS :=
  seqS (setS (tupG 3 (consG (nameG 3) (consG (nameG 4) (consG (nameG 5) (nilG))))) (varD 1)) (seqS (asgS 2 (d__law_done_c1 A)) (seqS (ifS (asB (bin2 (varD 3) (varD 4) (opD eqD))) (putSt (varD 2) (varD 3) (d__law_done_c3 A)) (ifS (asB (bin2 (varD 5) (cD (.int 0)) (opD eqD))) (seqS (putSt (varD 2) (varD 3) (cbD lstC (consL (bin2 (varD 0) (varD 4) ixS) (nilL)))) (putSt (varD 2) (varD 4) (cbD lstC (consL (bin2 (varD 0) (varD 3) ixS) (nilL))))) (putSt (varD 2) (varD 3) (d__law_done_c5 A)))) (retS (varD 2))))
noncomputable def phi__law_done (A : Ad) : DF := defD 9 (d__law_done A)
noncomputable def d__law_matrix_b1 (A : Ad) : DS :=
  asgS 2 (callD (phi__law_done A) (consL (varD 2) (consL (varD 3) (nilL))))
noncomputable def d__law_matrix_c2e (A : Ad) : DE S :=
  cbD (tupC) (consL (varD 4) (nilL))
noncomputable def d__law_matrix_c2 (A : Ad) : DE S :=
  compD (seqI (varD 2)) [4] (nameG 4) (yesB) (d__law_matrix_c2e A)
noncomputable def d__law_matrix (A : Ad) : DS :=
  seqS (asgS 2 (callD (phi__law_plain_matrix A) (consL (varD 0) (nilL)))) (seqS (forS (seqI (varD 1)) (nameG 3) (d__law_matrix_b1 A)) (retS (cbD (tupC) (consL (d__law_matrix_c2 A) (nilL)))))
noncomputable def phi__law_matrix (A : Ad) : DF := defD 5 (d__law_matrix A)
noncomputable def d_determinant_c1e (A : Ad) (psi : DF) : DE S :=
  bin2 (slD (varD 5) (noO) (someO (varD 2))) (slD (varD 5) (someO (bin2 (varD 2) (cD (.int 1)) addS)) (noO)) addS
noncomputable def d_determinant_c1 (A : Ad) (psi : DF) : DE S :=
  compD (seqI (slD (varD 0) (someO (cD (.int 1))) (noO))) [5] (nameG 5) (yesB) (d_determinant_c1e A psi)
noncomputable def d_determinant_b3 (A : Ad) (psi : DF) : DS :=
  seqS (asgS 4 (d_determinant_c1 A psi)) (augS 1 (bin2 (bin2 (varD 3) (callD psi (consL (varD 4) (nilL))) mulS) (ifD (asB (bin2 (bin2 (varD 2) (cD (.int 2)) (opD modD)) (cD (.int 0)) (opD eqD))) (cD (.int 1)) (un1D negS (cD (.int 1)))) mulS) (opD addD))
noncomputable def d_determinant (A : Ad) (psi : DF) : DS :=
  seqS (ifS (asB (bin2 (cbD (un1 lenD) (consL (varD 0) (nilL))) (cD (.int 0)) (opD eqD))) (retS (cD (.int 1))) (nextS)) (seqS (asgS 1 (cD (.int 0))) (seqS (forS (enumI (consL (bin2 (varD 0) (cD (.int 0)) ixS) (nilL))) (tupG 2 (consG (nameG 2) (consG (nameG 3) (nilG)))) (d_determinant_b3 A psi)) (retS (varD 1))))
noncomputable def phi_determinant (A : Ad) : DF := recD (fun psi => defD 6 (d_determinant A psi)) 6
noncomputable def d_dot_c1e (A : Ad) : DE S :=
  bin2 (varD 2) (varD 3) mulS
noncomputable def d_dot_c1 (A : Ad) : DE S :=
  compD (zipI2 (consL (varD 0) (consL (varD 1) (nilL)))) [2, 3] (tupG 2 (consG (nameG 2) (consG (nameG 3) (nilG)))) (yesB) (d_dot_c1e A)
noncomputable def d_dot (A : Ad) : DS :=
  retS (cbD (un1 sumD) (consL (d_dot_c1 A) (nilL)))
noncomputable def phi_dot (A : Ad) : DF := defD 4 (d_dot A)
noncomputable def d_program_of (A : Ad) : DS :=
  seqS (asgS 3 (makeC A.Program (phi_Program___init__ A) (consL (cD (.int 1)) (consL (cD (.int 1)) (consL (tupD (nilL)) (nilL)))))) (seqS (exprS (methF A.Program "keep" (phi_Program_keep A) (varD 3) (consL (varD 0) (consL (varD 1) (consL (cbD (tupC) (consL (DLS.sortSetD (varD 2)) (nilL))) (nilL)))))) (retS (varD 3)))
noncomputable def phi_program_of (A : Ad) : DF := defD 4 (d_program_of A)
noncomputable def d_turned_c1e (A : Ad) : DE S :=
  callD (phi_are_integers A) (consL (varD 7) (consL (varD 2) (nilL)))
noncomputable def d_turned_c1 (A : Ad) : DE S :=
  compD (seqI (varD 1)) [7] (nameG 7) (yesB) (d_turned_c1e A)
noncomputable def d_turned_c3e (A : Ad) : DE S :=
  callD (phi_dot A) (consL (varD 7) (consL (varD 6) (nilL)))
noncomputable def d_turned_c3 (A : Ad) : DE S :=
  compD (seqI (varD 1)) [7] (nameG 7) (yesB) (d_turned_c3e A)
noncomputable def d_turned_b5 (A : Ad) : DS :=
  exprS (mthL appS (varD 3) (consL (tupD (consL (varD 4) (consL (varD 5) (consL (cbD (tupC) (consL (d_turned_c3 A) (nilL))) (nilL))))) (nilL)))
noncomputable def d_turned (A : Ad) : DS :=
  seqS (asgS 2 (un1D (fldS A.Program "sides") (varD 0))) (seqS (ifS (orB (notB (asB (cbD (isiS (isC A)) (consL (varD 1) (consL (cD (.typ "tuple")) (nilL)))))) (orB (asB (bin2 (cbD (un1 lenD) (consL (varD 1) (nilL))) (varD 2) (opD neD))) (notB (asB (cbD (un1 allF) (consL (d_turned_c1 A) (nilL))))))) (raise0 A.NoMatrix) (nextS)) (seqS (ifS (asB (bin2 (callD (phi_determinant A) (consL (varD 1) (nilL))) (tupD (consL (cD (.int 1)) (consL (un1D negS (cD (.int 1))) (nilL)))) (inF true))) (raise0 A.NoMatrix) (nextS)) (seqS (asgS 3 (celD (nilL))) (seqS (forS (seqI (un1D (fldS A.Program "readings") (varD 0))) (tupG 3 (consG (nameG 4) (consG (nameG 5) (consG (nameG 6) (nilG))))) (d_turned_b5 A)) (retS (callD (phi_program_of A) (consL (varD 2) (consL (un1D (fldS A.Program "tables") (varD 0)) (consL (varD 3) (nilL))))))))))
noncomputable def phi_turned (A : Ad) : DF := defD 8 (d_turned A)
noncomputable def d__law_integer (A : Ad) : DS :=
  retS (andV (cbD (isiS (isC A)) (consL (varD 0) (consL (cD (.typ "int")) (nilL)))) (notV (cbD (isiS (isC A)) (consL (varD 0) (consL (cD (.typ "bool")) (nilL))))))
noncomputable def phi__law_integer (A : Ad) : DF := defD 1 (d__law_integer A)
noncomputable def d__law_same_b1 (A : Ad) (psi : DF) : DS :=
  ifS (notB (asB (callD psi (consL (bin2 (varD 0) (varD 2) ixS) (consL (bin2 (varD 1) (varD 2) ixS) (nilL)))))) (retS (cD (.bl false))) (nextS)
noncomputable def d__law_same (A : Ad) (psi : DF) : DS :=
  seqS (ifS (asB (bin2 (varD 1) (cD .non) (isNF false))) (retS (bin2 (varD 0) (cD .non) (isNF false))) (nextS)) (seqS (ifS (asB (cbD (isiS (isC A)) (consL (varD 1) (consL (cD (.typ "bool")) (nilL))))) (retS (andV (cbD (isiS (isC A)) (consL (varD 0) (consL (cD (.typ "bool")) (nilL)))) (bin2 (varD 0) (varD 1) (opD eqD)))) (nextS)) (seqS (ifS (asB (cbD (isiS (isC A)) (consL (varD 1) (consL (cD (.typ "int")) (nilL))))) (retS (andV (callD (phi__law_integer A) (consL (varD 0) (nilL))) (bin2 (varD 0) (varD 1) (opD eqD)))) (nextS)) (seqS (ifS (asB (cbD (isiS (isC A)) (consL (varD 1) (consL (cD (.typ "str")) (nilL))))) (retS (andV (cbD (isiS (isC A)) (consL (varD 0) (consL (cD (.typ "str")) (nilL)))) (bin2 (varD 0) (varD 1) (opD eqD)))) (nextS)) (seqS (ifS (andB (asB (cbD (isiS (isC A)) (consL (varD 1) (consL (cD (.typ "tuple")) (nilL))))) (notB (asB (cbD (isiS (isC A)) (consL (varD 0) (consL (cD (.typ "tuple")) (nilL))))))) (retS (cD (.bl false))) (nextS)) (seqS (ifS (andB (asB (cbD (isiS (isC A)) (consL (varD 1) (consL (cD (.typ "list")) (nilL))))) (notB (asB (cbD (isiS (isC A)) (consL (varD 0) (consL (cD (.typ "list")) (nilL))))))) (retS (cD (.bl false))) (nextS)) (seqS (ifS (asB (bin2 (cbD (un1 lenD) (consL (varD 0) (nilL))) (cbD (un1 lenD) (consL (varD 1) (nilL))) (opD neD))) (retS (cD (.bl false))) (nextS)) (seqS (forS (range1 (consL (cbD (un1 lenD) (consL (varD 1) (nilL))) (nilL))) (nameG 2) (d__law_same_b1 A psi)) (retS (cD (.bl true))))))))))
noncomputable def phi__law_same (A : Ad) : DF := recD (fun psi => defD 3 (d__law_same A psi)) 6
noncomputable def d__law_is (A : Ad) : DS :=
  seqS (ifS (notB (asB (cbD (isiS (isC A)) (consL (varD 0) (consL (cD (.adr A.Program)) (nilL)))))) (retS (cD (.bl false))) (nextS)) (retS (callD (phi__law_same A) (consL (tupD (consL (un1D (fldS A.Program "sides") (varD 0)) (consL (un1D (fldS A.Program "tables") (varD 0)) (consL (un1D (fldS A.Program "readings") (varD 0)) (nilL))))) (consL (varD 1) (nilL)))))
noncomputable def phi__law_is (A : Ad) : DF := defD 2 (d__law_is A)
noncomputable def d__law_led_c1e (A : Ad) : DE S :=
  bin2 (bin2 (varD 2) (varD 3) ixS) (bin2 (varD 1) (varD 3) ixS) mulS
noncomputable def d__law_led_c1 (A : Ad) : DE S :=
  compD (range1 (consL (cbD (un1 lenD) (consL (varD 1) (nilL))) (nilL))) [3] (nameG 3) (yesB) (d__law_led_c1e A)
noncomputable def d__law_led_c3e (A : Ad) : DE S :=
  cbD (un1 sumD) (consL (d__law_led_c1 A) (nilL))
noncomputable def d__law_led_c3 (A : Ad) : DE S :=
  compD (seqI (varD 0)) [2] (nameG 2) (yesB) (d__law_led_c3e A)
noncomputable def d__law_led (A : Ad) : DS :=
  retS (cbD (tupC) (consL (d__law_led_c3 A) (nilL)))
noncomputable def phi__law_led (A : Ad) : DF := defD 4 (d__law_led A)
noncomputable def d__law_sorted_parts (A : Ad) : DS :=
  retS (tupD (consL (varD 0) (consL (varD 1) (consL (cbD (tupC) (consL (DLS.sortSetD (varD 2)) (nilL))) (nilL)))))
noncomputable def phi__law_sorted_parts (A : Ad) : DF := defD 3 (d__law_sorted_parts A)
noncomputable def d__law_turned_c1e (A : Ad) : DE S :=
  tupD (consL (bin2 (varD 3) (cD (.int 0)) ixS) (consL (bin2 (varD 3) (cD (.int 1)) ixS) (consL (callD (phi__law_led A) (consL (varD 1) (consL (bin2 (varD 3) (cD (.int 2)) ixS) (nilL)))) (nilL))))
noncomputable def d__law_turned_c1 (A : Ad) : DE S :=
  compD (seqI (bin2 (varD 0) (cD (.int 2)) ixS)) [3] (nameG 3) (yesB) (d__law_turned_c1e A)
noncomputable def d__law_turned (A : Ad) : DS :=
  seqS (asgS 2 (d__law_turned_c1 A)) (retS (callD (phi__law_sorted_parts A) (consL (bin2 (varD 0) (cD (.int 0)) ixS) (consL (bin2 (varD 0) (cD (.int 1)) ixS) (consL (varD 2) (nilL))))))
noncomputable def phi__law_turned (A : Ad) : DF := defD 4 (d__law_turned A)
noncomputable def d_Program___eq__ (A : Ad) : DS :=
  seqS (ifS (notB (asB (cbD (isiS (isC A)) (consL (varD 1) (consL (cD (.adr A.Program)) (nilL)))))) (retS (cD (.bl false))) (nextS)) (retS (bin2 (tupD (consL (un1D (fldS A.Program "sides") (varD 0)) (consL (un1D (fldS A.Program "tables") (varD 0)) (consL (un1D (fldS A.Program "readings") (varD 0)) (nilL))))) (tupD (consL (un1D (fldS A.Program "sides") (varD 1)) (consL (un1D (fldS A.Program "tables") (varD 1)) (consL (un1D (fldS A.Program "readings") (varD 1)) (nilL))))) (opD eqD)))
noncomputable def phi_Program___eq__ (A : Ad) : DF := defD 2 (d_Program___eq__ A)
noncomputable def d_check_number (A : Ad) : DS :=
  ifS (notB (asB (callD (phi_is_within A) (consL (varD 0) (consL (varD 1) (consL (varD 2) (nilL))))))) (raise0 A.NoNumber) (nextS)
noncomputable def phi_check_number (A : Ad) : DF := defD 3 (d_check_number A)
noncomputable def d_stretched_c1e (A : Ad) : DE S :=
  bin2 (varD 1) (varD 6) mulS
noncomputable def d_stretched_c1 (A : Ad) : DE S :=
  compD (seqI (varD 5)) [6] (nameG 6) (yesB) (d_stretched_c1e A)
noncomputable def d_stretched_b3 (A : Ad) : DS :=
  exprS (mthL appS (varD 2) (consL (tupD (consL (varD 3) (consL (varD 4) (consL (cbD (tupC) (consL (d_stretched_c1 A) (nilL))) (nilL))))) (nilL)))
noncomputable def d_stretched (A : Ad) : DS :=
  seqS (exprS (callD (phi_check_number A) (consL (varD 1) (consL (cD (.int 1)) (consL (cD (.int 1000000000000)) (nilL)))))) (seqS (asgS 2 (celD (nilL))) (seqS (forS (seqI (un1D (fldS A.Program "readings") (varD 0))) (tupG 3 (consG (nameG 3) (consG (nameG 4) (consG (nameG 5) (nilG))))) (d_stretched_b3 A)) (retS (callD (phi_program_of A) (consL (un1D (fldS A.Program "sides") (varD 0)) (consL (un1D (fldS A.Program "tables") (varD 0)) (consL (varD 2) (nilL))))))))
noncomputable def phi_stretched (A : Ad) : DF := defD 7 (d_stretched A)
noncomputable def d_law_c1e (A : Ad) : DE S :=
  tupD (consL (bin2 (varD 16) (cD (.int 0)) ixS) (consL (bin2 (varD 16) (cD (.int 1)) ixS) (consL (bin2 (cD (.int 0)) (bin2 (varD 16) (cD (.int 2)) ixS) (opD subD)) (nilL))))
noncomputable def d_law_c1 (A : Ad) : DE S :=
  compD (seqI (revD (varD 11))) [16] (nameG 16) (yesB) (d_law_c1e A)
noncomputable def d_law_c3e (A : Ad) : DE S :=
  bin2 (varD 9) (varD 17) mulS
noncomputable def d_law_c3 (A : Ad) : DE S :=
  compD (seqI (varD 15)) [17] (nameG 17) (yesB) (d_law_c3e A)
noncomputable def d_law_b5 (A : Ad) : DS :=
  exprS (mthL appS (varD 10) (consL (tupD (consL (varD 13) (consL (varD 14) (consL (cbD (tupC) (consL (d_law_c3 A) (nilL))) (nilL))))) (nilL)))
noncomputable def d_law_b6 (A : Ad) : DS :=
  seqS (asgS 3 (callD (phi__law_parts A) (consL (varD 1) (nilL)))) (seqS (asgS 4 (callD (phi__law_program A) (consL (varD 3) (nilL)))) (seqS (parS 11 12 (consL (callD (phi__law_doings A) (consL (varD 1) (consL (bin2 (varD 3) (cD (.int 0)) ixS) (nilL)))) (consL (callD (phi__law_doings A) (consL (varD 1) (consL (bin2 (varD 3) (cD (.int 0)) ixS) (nilL)))) (nilL)))) (seqS (asgS 5 (d_law_c1 A)) (seqS (asgS 6 (callD (phi__law_matrix A) (consL (bin2 (varD 3) (cD (.int 0)) ixS) (consL (varD 11) (nilL))))) (seqS (asgS 7 (callD (phi_turned A) (consL (varD 4) (consL (varD 6) (nilL))))) (seqS (ifS (notB (asB (callD (phi__law_is A) (consL (varD 7) (consL (callD (phi__law_turned A) (consL (varD 3) (consL (varD 6) (nilL)))) (nilL)))))) (retS (cD (.bl false))) (nextS)) (seqS (ifS (asB (bin2 (callD (phi_turned A) (consL (varD 7) (consL (callD (phi__law_matrix A) (consL (bin2 (varD 3) (cD (.int 0)) ixS) (consL (varD 5) (nilL)))) (nilL)))) (varD 4) (neX A.Program (phi_Program___eq__ A)))) (retS (cD (.bl false))) (nextS)) (seqS (asgS 8 (callD (phi__law_matrix A) (consL (bin2 (varD 3) (cD (.int 0)) ixS) (consL (bin2 (varD 11) (varD 12) addS) (nilL))))) (seqS (ifS (asB (bin2 (callD (phi_turned A) (consL (varD 7) (consL (callD (phi__law_matrix A) (consL (bin2 (varD 3) (cD (.int 0)) ixS) (consL (varD 12) (nilL)))) (nilL)))) (callD (phi_turned A) (consL (varD 4) (consL (varD 8) (nilL)))) (neX A.Program (phi_Program___eq__ A)))) (retS (cD (.bl false))) (nextS)) (seqS (asgS 9 (callD (phi__law_some A) (consL (varD 1) (consL (lstD (consL (cD (.int 1)) (consL (cD (.int 2)) (consL (cD (.int 3)) (consL (cD (.int 1000)) (consL (bin2 (cD (.int 10)) (cD (.int 12)) (opD powD)) (nilL))))))) (nilL))))) (seqS (asgS 10 (celD (nilL))) (seqS (forS (seqI (bin2 (varD 3) (cD (.int 2)) ixS)) (tupG 3 (consG (nameG 13) (consG (nameG 14) (consG (nameG 15) (nilG))))) (d_law_b5 A)) (seqS (ifS (notB (asB (callD (phi__law_is A) (consL (callD (phi_stretched A) (consL (varD 4) (consL (varD 9) (nilL)))) (consL (callD (phi__law_sorted_parts A) (consL (bin2 (varD 3) (cD (.int 0)) ixS) (consL (bin2 (varD 3) (cD (.int 1)) ixS) (consL (varD 10) (nilL))))) (nilL)))))) (retS (cD (.bl false))) (nextS)) (seqS (ifS (asB (bin2 (callD (phi_stretched A) (consL (varD 7) (consL (varD 9) (nilL)))) (callD (phi_turned A) (consL (callD (phi_stretched A) (consL (varD 4) (consL (varD 9) (nilL)))) (consL (varD 6) (nilL)))) (neX A.Program (phi_Program___eq__ A)))) (retS (cD (.bl false))) (nextS)) (seqS (ifS (orB (asB (bin2 (callD (phi_turned A) (consL (varD 4) (consL (callD (phi__law_matrix A) (consL (bin2 (varD 3) (cD (.int 0)) ixS) (consL (lstD (nilL)) (nilL)))) (nilL)))) (varD 4) (neX A.Program (phi_Program___eq__ A)))) (asB (bin2 (callD (phi_stretched A) (consL (varD 4) (consL (cD (.int 1)) (nilL)))) (varD 4) (neX A.Program (phi_Program___eq__ A))))) (retS (cD (.bl false))) (nextS)) (ifS (notB (asB (callD (phi__law_is A) (consL (varD 4) (consL (varD 3) (nilL)))))) (retS (cD (.bl false))) (nextS)))))))))))))))))
noncomputable def d_law (A : Ad) : DS :=
  seqS (asgS 1 (callD (phi__law_pool A) (consL (varD 0) (nilL)))) (seqS (forS (range1 (consL (cD (.int 4)) (nilL))) (nameG 2) (d_law_b6 A)) (retS (cD (.bl true))))
noncomputable def phi_law (A : Ad) : DF := defD 18 (d_law A)
structure Txt (K : PySem.W.Frag) (mg : Str → Option Value) (P : Program) (A : Ad) (B : Fd) : Prop where
  F__law_pool : Fun K "_law_pool" "_law_pool" s__law_pool A._law_pool B._law_pool
  b__law_pool : Binds K B._law_pool ["_law_script"] []
  k__law_pool : PySem.W.keepIn K (.ref A._law_pool) = true
  m__law_pool : mg "_law_pool" = some (.ref A._law_pool)
  F__law_draw : Fun K "_law_draw" "_law_draw" s__law_draw A._law_draw B._law_draw
  b__law_draw : Binds K B._law_draw ["_law_pool_here", "_law_many"] []
  k__law_draw : PySem.W.keepIn K (.ref A._law_draw) = true
  m__law_draw : mg "_law_draw" = some (.ref A._law_draw)
  F__law_some : Fun K "_law_some" "_law_some" s__law_some A._law_some B._law_some
  b__law_some : Binds K B._law_some ["_law_pool_here", "_law_things"] []
  k__law_some : PySem.W.keepIn K (.ref A._law_some) = true
  m__law_some : mg "_law_some" = some (.ref A._law_some)
  F__law_step : Fun K "_law_step" "_law_step" s__law_step A._law_step B._law_step
  b__law_step : Binds K B._law_step ["_law_pool_here", "_law_sides"] []
  k__law_step : PySem.W.keepIn K (.ref A._law_step) = true
  m__law_step : mg "_law_step" = some (.ref A._law_step)
  F__law_parts : Fun K "_law_parts" "_law_parts" s__law_parts A._law_parts B._law_parts
  b__law_parts : Binds K B._law_parts ["_law_pool_here"] []
  k__law_parts : PySem.W.keepIn K (.ref A._law_parts) = true
  m__law_parts : mg "_law_parts" = some (.ref A._law_parts)
  F_is_integer : Fun K "is_integer" "is_integer" s_is_integer A.is_integer B.is_integer
  b_is_integer : Binds K B.is_integer ["thing"] []
  k_is_integer : PySem.W.keepIn K (.ref A.is_integer) = true
  m_is_integer : mg "is_integer" = some (.ref A.is_integer)
  F_is_within : Fun K "is_within" "is_within" s_is_within A.is_within B.is_within
  b_is_within : Binds K B.is_within ["thing", "least", "most"] []
  k_is_within : PySem.W.keepIn K (.ref A.is_within) = true
  m_is_within : mg "is_within" = some (.ref A.is_within)
  F_is_triple : Fun K "is_triple" "is_triple" s_is_triple A.is_triple B.is_triple
  b_is_triple : Binds K B.is_triple ["thing"] []
  k_is_triple : PySem.W.keepIn K (.ref A.is_triple) = true
  m_is_triple : mg "is_triple" = some (.ref A.is_triple)
  F_are_integers : Fun K "are_integers" "are_integers" s_are_integers A.are_integers B.are_integers
  b_are_integers : Binds K B.are_integers ["thing", "many"] []
  k_are_integers : PySem.W.keepIn K (.ref A.are_integers) = true
  m_are_integers : mg "are_integers" = some (.ref A.are_integers)
  F_are_within : Fun K "are_within" "are_within" s_are_within A.are_within B.are_within
  b_are_within : Binds K B.are_within ["thing", "many", "least", "most"] []
  k_are_within : PySem.W.keepIn K (.ref A.are_within) = true
  m_are_within : mg "are_within" = some (.ref A.are_within)
  F_is_reading : Fun K "is_reading" "is_reading" s_is_reading A.is_reading B.is_reading
  b_is_reading : Binds K B.is_reading ["sides", "tables", "thing"] []
  k_is_reading : PySem.W.keepIn K (.ref A.is_reading) = true
  m_is_reading : mg "is_reading" = some (.ref A.is_reading)
  F_Program_keep : Fun K "keep" "Program.keep" s_Program_keep A.Program_keep B.Program_keep
  b_Program_keep : Binds K B.Program_keep ["self", "sides", "tables", "readings"] []
  k_Program_keep : PySem.W.keepIn K (.ref A.Program_keep) = true
  fn_Program_keep : PySem.W.isFn K (.ref A.Program_keep) = true
  me_Program_keep : Meth K A.Program "keep" A.Program_keep
  F_Program___init__ : Fun K "__init__" "Program.__init__" s_Program___init__ A.Program___init__ B.Program___init__
  b_Program___init__ : Binds K B.Program___init__ ["self", "sides", "tables", "readings"] []
  k_Program___init__ : PySem.W.keepIn K (.ref A.Program___init__) = true
  fn_Program___init__ : PySem.W.isFn K (.ref A.Program___init__) = true
  F__law_program : Fun K "_law_program" "_law_program" s__law_program A._law_program B._law_program
  b__law_program : Binds K B._law_program ["_law_parts_here"] []
  k__law_program : PySem.W.keepIn K (.ref A._law_program) = true
  m__law_program : mg "_law_program" = some (.ref A._law_program)
  F__law_doings : Fun K "_law_doings" "_law_doings" s__law_doings A._law_doings B._law_doings
  b__law_doings : Binds K B._law_doings ["_law_pool_here", "_law_sides"] []
  k__law_doings : PySem.W.keepIn K (.ref A._law_doings) = true
  m__law_doings : mg "_law_doings" = some (.ref A._law_doings)
  F__law_plain_matrix : Fun K "_law_plain_matrix" "_law_plain_matrix" s__law_plain_matrix A._law_plain_matrix B._law_plain_matrix
  b__law_plain_matrix : Binds K B._law_plain_matrix ["_law_sides"] []
  k__law_plain_matrix : PySem.W.keepIn K (.ref A._law_plain_matrix) = true
  m__law_plain_matrix : mg "_law_plain_matrix" = some (.ref A._law_plain_matrix)
  F__law_done : Fun K "_law_done" "_law_done" s__law_done A._law_done B._law_done
  b__law_done : Binds K B._law_done ["_law_rows", "_law_doing"] []
  k__law_done : PySem.W.keepIn K (.ref A._law_done) = true
  m__law_done : mg "_law_done" = some (.ref A._law_done)
  F__law_matrix : Fun K "_law_matrix" "_law_matrix" s__law_matrix A._law_matrix B._law_matrix
  b__law_matrix : Binds K B._law_matrix ["_law_sides", "_law_doings_here"] []
  k__law_matrix : PySem.W.keepIn K (.ref A._law_matrix) = true
  m__law_matrix : mg "_law_matrix" = some (.ref A._law_matrix)
  F_determinant : Fun K "determinant" "determinant" s_determinant A.determinant B.determinant
  b_determinant : Binds K B.determinant ["matrix"] []
  k_determinant : PySem.W.keepIn K (.ref A.determinant) = true
  m_determinant : mg "determinant" = some (.ref A.determinant)
  F_dot : Fun K "dot" "dot" s_dot A.dot B.dot
  b_dot : Binds K B.dot ["row", "step"] []
  k_dot : PySem.W.keepIn K (.ref A.dot) = true
  m_dot : mg "dot" = some (.ref A.dot)
  F_program_of : Fun K "program_of" "program_of" s_program_of A.program_of B.program_of
  b_program_of : Binds K B.program_of ["sides", "tables", "readings"] []
  k_program_of : PySem.W.keepIn K (.ref A.program_of) = true
  m_program_of : mg "program_of" = some (.ref A.program_of)
  F_turned : Fun K "turned" "turned" s_turned A.turned B.turned
  b_turned : Binds K B.turned ["program", "matrix"] []
  k_turned : PySem.W.keepIn K (.ref A.turned) = true
  m_turned : mg "turned" = some (.ref A.turned)
  F__law_integer : Fun K "_law_integer" "_law_integer" s__law_integer A._law_integer B._law_integer
  b__law_integer : Binds K B._law_integer ["_law_thing"] []
  k__law_integer : PySem.W.keepIn K (.ref A._law_integer) = true
  m__law_integer : mg "_law_integer" = some (.ref A._law_integer)
  F__law_same : Fun K "_law_same" "_law_same" s__law_same A._law_same B._law_same
  b__law_same : Binds K B._law_same ["_law_actual", "_law_expected"] []
  k__law_same : PySem.W.keepIn K (.ref A._law_same) = true
  m__law_same : mg "_law_same" = some (.ref A._law_same)
  F__law_is : Fun K "_law_is" "_law_is" s__law_is A._law_is B._law_is
  b__law_is : Binds K B._law_is ["_law_program_here", "_law_parts_here"] []
  k__law_is : PySem.W.keepIn K (.ref A._law_is) = true
  m__law_is : mg "_law_is" = some (.ref A._law_is)
  F__law_led : Fun K "_law_led" "_law_led" s__law_led A._law_led B._law_led
  b__law_led : Binds K B._law_led ["_law_matrix_here", "_law_step_here"] []
  k__law_led : PySem.W.keepIn K (.ref A._law_led) = true
  m__law_led : mg "_law_led" = some (.ref A._law_led)
  F__law_sorted_parts : Fun K "_law_sorted_parts" "_law_sorted_parts" s__law_sorted_parts A._law_sorted_parts B._law_sorted_parts
  b__law_sorted_parts : Binds K B._law_sorted_parts ["_law_sides", "_law_tables", "_law_readings"] []
  k__law_sorted_parts : PySem.W.keepIn K (.ref A._law_sorted_parts) = true
  m__law_sorted_parts : mg "_law_sorted_parts" = some (.ref A._law_sorted_parts)
  F__law_turned : Fun K "_law_turned" "_law_turned" s__law_turned A._law_turned B._law_turned
  b__law_turned : Binds K B._law_turned ["_law_parts_here", "_law_matrix_here"] []
  k__law_turned : PySem.W.keepIn K (.ref A._law_turned) = true
  m__law_turned : mg "_law_turned" = some (.ref A._law_turned)
  F_Program___eq__ : Fun K "__eq__" "Program.__eq__" s_Program___eq__ A.Program___eq__ B.Program___eq__
  b_Program___eq__ : Binds K B.Program___eq__ ["self", "other"] []
  k_Program___eq__ : PySem.W.keepIn K (.ref A.Program___eq__) = true
  fn_Program___eq__ : PySem.W.isFn K (.ref A.Program___eq__) = true
  F_check_number : Fun K "check_number" "check_number" s_check_number A.check_number B.check_number
  b_check_number : Binds K B.check_number ["thing", "least", "most"] []
  k_check_number : PySem.W.keepIn K (.ref A.check_number) = true
  m_check_number : mg "check_number" = some (.ref A.check_number)
  F_stretched : Fun K "stretched" "stretched" s_stretched A.stretched B.stretched
  b_stretched : Binds K B.stretched ["program", "times"] []
  k_stretched : PySem.W.keepIn K (.ref A.stretched) = true
  m_stretched : mg "stretched" = some (.ref A.stretched)
  F_law : Fun K "law" "law" s_law A.law B.law
  b_law : Binds K B.law ["_law_script"] []
  k_law : PySem.W.keepIn K (.ref A.law) = true
  m_law : mg "law" = some (.ref A.law)
  m_Program : mg "Program" = some (.ref A.Program)
  kc_Program : KC K A.Program
  mk_Program : Mk K A.Program A.Program___init__
  ne_Program : PySem.W.findIn K (.ref A.Program) "__ne__" = some (some (.builtin "object.__ne__"))
  e_Program : PySem.W.findIn K (.ref A.Program) "__eq__" = some (some (.ref A.Program___eq__))
  n_Program_readings : NoAttr K A.Program "readings"
  n_Program_sides : NoAttr K A.Program "sides"
  n_Program_tables : NoAttr K A.Program "tables"
  c_MOST_READINGS : ∃ u, mg "MOST_READINGS" = some u ∧ RelV (.int 24) u
  c_MOST_SIDES : ∃ u, mg "MOST_SIDES" = some u ∧ RelV (.int 4) u
  c_MOST_STEP : ∃ u, mg "MOST_STEP" = some u ∧ RelV (.int 1000000000000) u
  c_MOST_TABLES : ∃ u, mg "MOST_TABLES" = some u ∧ RelV (.int 8) u
  c_MOST_TIMES : ∃ u, mg "MOST_TIMES" = some u ∧ RelV (.int 1000000000000) u
  z_abs : mg "abs" = none
  z_all : mg "all" = none
  z_bool : mg "bool" = none
  z_enumerate : mg "enumerate" = none
  z_int : mg "int" = none
  z_isinstance : mg "isinstance" = none
  z_len : mg "len" = none
  z_list : mg "list" = none
  z_range : mg "range" = none
  z_set : mg "set" = none
  z_sorted : mg "sorted" = none
  z_str : mg "str" = none
  z_sum : mg "sum" = none
  z_tuple : mg "tuple" = none
  z_zip : mg "zip" = none
  isC : ∀ C, isC A C = true → KC K C
  nx_BadProgram_part : PySem.W.findIn K (.ref A.BadProgram) "part" = some none
  xf_BadProgram : XfC K A.BadProgram
  xt_BadProgram : PySem.DLX.XTxt K P A.BadProgram A.BadProgram_init A.BadProgram_cc
  xn_BadProgram : PySem.DLX.XFn K P A.BadProgram_init A.BadProgram_cc (PySem.DLX.iA1 "part" ⟨6, 17, 6, 21⟩ ⟨6, 23, 6, 27⟩) [PySem.DLX.iE "no program" 0 ⟨7, 8, 7, 13⟩ ⟨7, 8, 7, 15⟩ ⟨7, 8, 7, 24⟩ ⟨7, 25, 7, 37⟩ ⟨7, 8, 7, 38⟩ ⟨7, 8, 7, 38⟩, PySem.DLX.iF "part" ⟨8, 8, 8, 12⟩ ⟨8, 8, 8, 17⟩ ⟨8, 20, 8, 24⟩ ⟨8, 8, 8, 24⟩] (PySem.DLX.iS1 "part") ["part"] "no program" 0 ⟨7, 8, 7, 13⟩ ⟨7, 8, 7, 15⟩ ⟨7, 8, 7, 24⟩ ⟨7, 25, 7, 37⟩ ⟨7, 8, 7, 38⟩
  kk_BadProgram : PySem.W.keepIn K (.ref A.BadProgram) = true
  ex_BadProgram : PySem.W.subIn K (.ref A.BadProgram) (.type "BaseException") = some true
  ty_BadProgram : PySem.W.typeIn K (.ref A.BadProgram) = some (.type "type")
  xt_NoMatrix : PySem.DLX.XTxt K P A.NoMatrix A.NoMatrix_init A.NoMatrix_cc
  xn_NoMatrix : PySem.DLX.XFn K P A.NoMatrix_init A.NoMatrix_cc (PySem.DLX.iA0 ⟨11, 17, 11, 21⟩) [PySem.DLX.iE "no matrix as told" 0 ⟨12, 8, 12, 13⟩ ⟨12, 8, 12, 15⟩ ⟨12, 8, 12, 24⟩ ⟨12, 25, 12, 44⟩ ⟨12, 8, 12, 45⟩ ⟨12, 8, 12, 45⟩] PySem.DLX.iS0 [] "no matrix as told" 0 ⟨12, 8, 12, 13⟩ ⟨12, 8, 12, 15⟩ ⟨12, 8, 12, 24⟩ ⟨12, 25, 12, 44⟩ ⟨12, 8, 12, 45⟩
  kk_NoMatrix : PySem.W.keepIn K (.ref A.NoMatrix) = true
  ex_NoMatrix : PySem.W.subIn K (.ref A.NoMatrix) (.type "BaseException") = some true
  ty_NoMatrix : PySem.W.typeIn K (.ref A.NoMatrix) = some (.type "type")
  xt_NoNumber : PySem.DLX.XTxt K P A.NoNumber A.NoNumber_init A.NoNumber_cc
  xn_NoNumber : PySem.DLX.XFn K P A.NoNumber_init A.NoNumber_cc (PySem.DLX.iA0 ⟨15, 17, 15, 21⟩) [PySem.DLX.iE "no number as told" 0 ⟨16, 8, 16, 13⟩ ⟨16, 8, 16, 15⟩ ⟨16, 8, 16, 24⟩ ⟨16, 25, 16, 44⟩ ⟨16, 8, 16, 45⟩ ⟨16, 8, 16, 45⟩] PySem.DLX.iS0 [] "no number as told" 0 ⟨16, 8, 16, 13⟩ ⟨16, 8, 16, 15⟩ ⟨16, 8, 16, 24⟩ ⟨16, 25, 16, 44⟩ ⟨16, 8, 16, 45⟩
  kk_NoNumber : PySem.W.keepIn K (.ref A.NoNumber) = true
  ex_NoNumber : PySem.W.subIn K (.ref A.NoNumber) (.type "BaseException") = some true
  ty_NoNumber : PySem.W.typeIn K (.ref A.NoNumber) = some (.type "type")
  m_BadProgram : mg "BadProgram" = some (.ref A.BadProgram)
  m_NoMatrix : mg "NoMatrix" = some (.ref A.NoMatrix)
  m_NoNumber : mg "NoNumber" = some (.ref A.NoNumber)
  xt : ExTOk K (xtab A)
section
variable {P : Program} {w : World} {K : PySem.W.Frag} {mg : Str → Option Value} {base : Heap} {A : Ad} {B : Fd}
theorem sc__law_pool : FnScope ["_law_script", "_law_seed", "_law_cell"] ["_law_script"] (defScope s__law_pool) := ⟨rfl, rfl, rfl, by decide +kernel, rfl, by decide +kernel, by decide +kernel⟩
set_option maxHeartbeats 0 in
theorem ok__law_pool (T : Txt K mg P A B) : FnD P w K mg base 1 A._law_pool B._law_pool ["_law_script"] (phi__law_pool A) := fn_c (body := d__law_pool A) (N := ["_law_script", "_law_seed", "_law_cell"]) (k := 0) T.F__law_pool sc__law_pool fun cdv Ar outer s H E hr => by
  have nd := sc__law_pool.nd
  exact (sds_cons (sd_asg (pg_name (i := 1) nd rfl (by first | exact Or.inl rfl | exact Or.inr rfl)) (ed_addX (ed_addX (ed_mod (ed_ct call_int1 cd_int (by rfl) T.z_int bt_int (ld_cons (ed_cb (cr_sum rfl) cd_sum (by rfl) T.z_sum bt_sum (ld_cons (ed_sl (ed_var (pv 0)) od_none (od_some ed_int)) ld_nil)) ld_nil)) ed_int) (ed_cb call_len cd_len (by rfl) T.z_len bt_len (ld_cons (ed_var (pv 0)) ld_nil))) ed_int)) (sds_cons (sd_for (passes_of rfl) rfl (id_seq (ed_sl (ed_var (pv 0)) od_none (od_some ed_int))) (gd_name (pg_name (i := 2) nd rfl (by first | exact Or.inl rfl | exact Or.inr rfl))) (sds_one (sd_asg (pg_name (i := 1) nd rfl (by first | exact Or.inl rfl | exact Or.inr rfl)) (ed_mod (ed_ct call_int1 cd_int (by rfl) T.z_int bt_int (ld_cons (ed_addX (ed_addX (ed_mulX (ed_var (pv 1)) ed_int) (ed_mod (ed_ct call_int1 cd_int (by rfl) T.z_int bt_int (ld_cons (ed_var (pv 2)) ld_nil)) ed_int)) ed_int) ld_nil)) ed_int)))) (sds_one (sd_ret (ed_tap (ld_cons (ed_var (pv 1)) (ld_cons ed_int (ld_cons (ed_lcC rfl nd (id_seq (ed_sl (ed_var (pv 0)) od_none (od_some ed_int))) (blkOk_by (own := [("_law_cell", 2)]) (by kernel_rfl)) (by  decide) (fun _ _ _ _ _ => (gd_name (pg_name (i := 2) nd rfl (by first | exact Or.inl rfl | exact Or.inr rfl)))) (fun _ _ _ _ _ => (ts_one (td_cmp op_ge opd_ge (ed_cb call_abs cd_abs (by rfl) T.z_abs bt_abs (ld_cons (ed_var (pv 2)) ld_nil)) (ed_pow ed_int ed_int) (nomark _)))) (fun _ _ _ _ _ => (ed_cb call_abs cd_abs (by rfl) T.z_abs bt_abs (ld_cons (ed_var (pv 2)) ld_nil)))) ld_nil))))))))
theorem sc__law_draw : FnScope ["_law_pool_here", "_law_many", "_law_cells", "_law_mixed", "_law_digit"] ["_law_pool_here", "_law_many"] (defScope s__law_draw) := ⟨rfl, rfl, rfl, by decide +kernel, rfl, by decide +kernel, by decide +kernel⟩
set_option maxHeartbeats 0 in
theorem ok__law_draw (T : Txt K mg P A B) : FnD P w K mg base 1 A._law_draw B._law_draw ["_law_pool_here", "_law_many"] (phi__law_draw A) := fn_d (body := d__law_draw A) (N := ["_law_pool_here", "_law_many", "_law_cells", "_law_mixed", "_law_digit"]) (k := 0) T.F__law_draw sc__law_draw fun cdv Ar outer s H E hr => by
  have nd := sc__law_draw.nd
  exact (sds_cons (sd_put (ed_var (pv 0)) ed_int (ed_addX (ed_ix (ed_var (pv 0)) ed_int) ed_int)) (sds_cons (sd_asg (pg_name (i := 2) nd rfl (by first | exact Or.inl rfl | exact Or.inr rfl)) (ed_ix (ed_var (pv 0)) ed_int)) (sds_cons (sd_if (td_cmp op_gt opd_gt (ed_cb call_len cd_len (by rfl) T.z_len bt_len (ld_cons (ed_var (pv 2)) ld_nil)) ed_int (nomark _)) (sds_cons (sd_asg (pg_name (i := 4) nd rfl (by first | exact Or.inl rfl | exact Or.inr rfl)) (ed_mod (ed_ct call_int1 cd_int (by rfl) T.z_int bt_int (ld_cons (ed_ix (ed_var (pv 2)) ed_int) ld_nil)) (ed_var (pv 1)))) (sds_cons (sd_put (ed_var (pv 2)) ed_int (ed_div (ed_ct call_int1 cd_int (by rfl) T.z_int bt_int (ld_cons (ed_ix (ed_var (pv 2)) ed_int) ld_nil)) (ed_var (pv 1)))) (sds_cons (sd_if (td_cmp (op_eqD hr.units) opd_eq (ed_ix (ed_var (pv 2)) ed_int) ed_int (nomark _)) (sds_one (sd_expr (ed_lm PySem.F.slot_list_pop PySem.F.type_list_pop mt_popAt md_popI (ed_var (pv 2)) (ld_cons ed_int ld_nil)))) sds_nil) (sds_one (sd_ret (ed_var (pv 4))))))) sds_nil) (sds_cons (sd_asg (pg_name (i := 3) nd rfl (by first | exact Or.inl rfl | exact Or.inr rfl)) (ed_mod (ed_ct call_int1 cd_int (by rfl) T.z_int bt_int (ld_cons (ed_mulX (ed_addX (ed_ix (ed_var (pv 0)) ed_int) (ed_mulX ed_int (ed_ix (ed_var (pv 0)) ed_int))) ed_int) ld_nil)) ed_int)) (sds_cons (sd_asg (pg_name (i := 3) nd rfl (by first | exact Or.inl rfl | exact Or.inr rfl)) (ed_mod (ed_ct call_int1 cd_int (by rfl) T.z_int bt_int (ld_cons (ed_mulX (ed_var (pv 3)) (ed_addX (ed_div (ed_var (pv 3)) ed_int) ed_int)) ld_nil)) ed_int)) (sds_cons (sd_asg (pg_name (i := 3) nd rfl (by first | exact Or.inl rfl | exact Or.inr rfl)) (ed_mod (ed_ct call_int1 cd_int (by rfl) T.z_int bt_int (ld_cons (ed_mulX (ed_var (pv 3)) (ed_addX (ed_div (ed_var (pv 3)) ed_int) ed_int)) ld_nil)) ed_int)) (sds_one (sd_ret (ed_mod (ed_ct call_int1 cd_int (by rfl) T.z_int bt_int (ld_cons (ed_div (ed_var (pv 3)) ed_int) ld_nil)) (ed_var (pv 1)))))))))))
theorem sc__law_some : FnScope ["_law_pool_here", "_law_things"] ["_law_pool_here", "_law_things"] (defScope s__law_some) := ⟨rfl, rfl, rfl, by decide +kernel, rfl, by decide +kernel, by decide +kernel⟩
set_option maxHeartbeats 0 in
theorem ok__law_some (T : Txt K mg P A B) : FnD P w K mg base 2 A._law_some B._law_some ["_law_pool_here", "_law_things"] (phi__law_some A) := fn_d (body := d__law_some A) (N := ["_law_pool_here", "_law_things"]) (k := 1) T.F__law_some sc__law_some fun cdv Ar outer s H E hr => by
  have nd := sc__law_some.nd
  exact (sds_one (sd_ret (ed_ix (ed_var (pv 1)) (ed_call (ok__law_draw T) (hr.mono (by decide)) (takes_of rfl rfl rfl rfl) (by rfl) T.m__law_draw T.k__law_draw T.b__law_draw rfl (len_cons (len_cons len_nil)) (ld_cons (ed_var (pv 0)) (ld_cons (ed_cb call_len cd_len (by rfl) T.z_len bt_len (ld_cons (ed_var (pv 1)) ld_nil)) ld_nil))))))
theorem sc__law_step : FnScope ["_law_pool_here", "_law_sides", "_law_kind", "_law_k"] ["_law_pool_here", "_law_sides"] (defScope s__law_step) := ⟨rfl, rfl, rfl, by decide +kernel, rfl, by decide +kernel, by decide +kernel⟩
set_option maxHeartbeats 0 in
theorem ok__law_step (T : Txt K mg P A B) : FnD P w K mg base 3 A._law_step B._law_step ["_law_pool_here", "_law_sides"] (phi__law_step A) := fn_d (body := d__law_step A) (N := ["_law_pool_here", "_law_sides", "_law_kind", "_law_k"]) (k := 2) T.F__law_step sc__law_step fun cdv Ar outer s H E hr => by
  have nd := sc__law_step.nd
  exact (sds_cons (sd_asg (pg_name (i := 2) nd rfl (by first | exact Or.inl rfl | exact Or.inr rfl)) (ed_call (ok__law_draw T) (hr.mono (by decide)) (takes_of rfl rfl rfl rfl) (by rfl) T.m__law_draw T.k__law_draw T.b__law_draw rfl (len_cons (len_cons len_nil)) (ld_cons (ed_var (pv 0)) (ld_cons ed_int ld_nil)))) (sds_cons (sd_if (td_cmp (op_eqD hr.units) opd_eq (ed_var (pv 2)) ed_int (nomark _)) (sds_one (sd_ret (ed_mulX (ed_tup (ld_cons ed_int ld_nil)) (ed_var (pv 1))))) sds_nil) (sds_cons (sd_if (td_cmp (op_eqD hr.units) opd_eq (ed_var (pv 2)) ed_int (nomark _)) (sds_one (sd_ret (ed_ct call_tuple_of cd_tuple (by rfl) T.z_tuple bt_tuple (ld_cons (ed_lc rfl nd (id_range1 (by rfl) T.z_range (ld_cons (ed_var (pv 1)) ld_nil)) (blkOk_by (own := [("_law_k", 3)]) (by kernel_rfl)) (by  decide) (fun _ _ _ _ _ => (gd_name (pg_name (i := 3) nd rfl (by first | exact Or.inl rfl | exact Or.inr rfl)))) (fun _ _ _ _ _ => ts_nil) (fun _ _ _ _ _ => (ed_call (ok__law_some T) (hr.mono (by decide)) takes_none5 (by rfl) T.m__law_some T.k__law_some T.b__law_some rfl (len_cons (len_cons len_nil)) (ld_cons (ed_var (pv 0)) (ld_cons (ed_lst (ld_cons (ed_neg (ed_pow ed_int ed_int)) (ld_cons (ed_pow ed_int ed_int) (ld_cons (ed_sub ed_int (ed_pow ed_int ed_int)) (ld_cons ed_int (ld_cons ed_int ld_nil)))))) ld_nil))))) ld_nil)))) sds_nil) (sds_one (sd_ret (ed_ct call_tuple_of cd_tuple (by rfl) T.z_tuple bt_tuple (ld_cons (ed_lc rfl nd (id_range1 (by rfl) T.z_range (ld_cons (ed_var (pv 1)) ld_nil)) (blkOk_by (own := [("_law_k", 3)]) (by kernel_rfl)) (by  decide) (fun _ _ _ _ _ => (gd_name (pg_name (i := 3) nd rfl (by first | exact Or.inl rfl | exact Or.inr rfl)))) (fun _ _ _ _ _ => ts_nil) (fun _ _ _ _ _ => (ed_sub (ed_call (ok__law_draw T) (hr.mono (by decide)) takes_none5 (by rfl) T.m__law_draw T.k__law_draw T.b__law_draw rfl (len_cons (len_cons len_nil)) (ld_cons (ed_var (pv 0)) (ld_cons ed_int ld_nil))) ed_int))) ld_nil)))))))
theorem sc__law_parts : FnScope ["_law_pool_here", "_law_sides", "_law_tables", "_law_readings", "_law_k"] ["_law_pool_here"] (defScope s__law_parts) := ⟨rfl, rfl, rfl, by decide +kernel, rfl, by decide +kernel, by decide +kernel⟩
set_option maxHeartbeats 0 in
theorem ok__law_parts (T : Txt K mg P A B) : FnD P w K mg base 4 A._law_parts B._law_parts ["_law_pool_here"] (phi__law_parts A) := fn_d (body := d__law_parts A) (N := ["_law_pool_here", "_law_sides", "_law_tables", "_law_readings", "_law_k"]) (k := 3) T.F__law_parts sc__law_parts fun cdv Ar outer s H E hr => by
  have nd := sc__law_parts.nd
  exact (sds_cons (sd_asg (pg_name (i := 1) nd rfl (by first | exact Or.inl rfl | exact Or.inr rfl)) (ed_addX ed_int (ed_call (ok__law_draw T) (hr.mono (by decide)) (takes_of rfl rfl rfl rfl) (by rfl) T.m__law_draw T.k__law_draw T.b__law_draw rfl (len_cons (len_cons len_nil)) (ld_cons (ed_var (pv 0)) (ld_cons ed_int ld_nil))))) (sds_cons (sd_asg (pg_name (i := 2) nd rfl (by first | exact Or.inl rfl | exact Or.inr rfl)) (ed_addX ed_int (ed_call (ok__law_some T) (hr.mono (by decide)) (takes_of rfl rfl rfl rfl) (by rfl) T.m__law_some T.k__law_some T.b__law_some rfl (len_cons (len_cons len_nil)) (ld_cons (ed_var (pv 0)) (ld_cons (ed_lst (ld_cons ed_int (ld_cons ed_int (ld_cons ed_int (ld_cons ed_int (ld_cons ed_int (ld_cons ed_int (ld_cons ed_int ld_nil)))))))) ld_nil))))) (sds_cons (sd_asg (pg_name (i := 3) nd rfl (by first | exact Or.inl rfl | exact Or.inr rfl)) (ed_cel ld_nil)) (sds_cons (sd_for (passes_of rfl) rfl (id_range1 (by rfl) T.z_range (ld_cons (ed_call (ok__law_some T) (hr.mono (by decide)) (takes_of rfl rfl rfl rfl) (by rfl) T.m__law_some T.k__law_some T.b__law_some rfl (len_cons (len_cons len_nil)) (ld_cons (ed_var (pv 0)) (ld_cons (ed_lst (ld_cons ed_int (ld_cons ed_int (ld_cons ed_int (ld_cons ed_int (ld_cons ed_int (ld_cons ed_int (ld_cons ed_int (ld_cons ed_int ld_nil))))))))) ld_nil))) ld_nil)) (gd_name (pg_name (i := 4) nd rfl (by first | exact Or.inl rfl | exact Or.inr rfl))) (sds_one (sd_expr (ed_lm PySem.F.slot_list_append PySem.F.type_list_append mt_append md_app (ed_var (pv 3)) (ld_cons (ed_tup (ld_cons (ed_call (ok__law_draw T) (hr.mono (by decide)) (takes_of rfl rfl rfl rfl) (by rfl) T.m__law_draw T.k__law_draw T.b__law_draw rfl (len_cons (len_cons len_nil)) (ld_cons (ed_var (pv 0)) (ld_cons (ed_var (pv 2)) ld_nil))) (ld_cons (ed_call (ok__law_draw T) (hr.mono (by decide)) (takes_of rfl rfl rfl rfl) (by rfl) T.m__law_draw T.k__law_draw T.b__law_draw rfl (len_cons (len_cons len_nil)) (ld_cons (ed_var (pv 0)) (ld_cons (ed_var (pv 2)) ld_nil))) (ld_cons (ed_call (ok__law_step T) (hr.mono (by decide)) (takes_of rfl rfl rfl rfl) (by rfl) T.m__law_step T.k__law_step T.b__law_step rfl (len_cons (len_cons len_nil)) (ld_cons (ed_var (pv 0)) (ld_cons (ed_var (pv 1)) ld_nil))) ld_nil)))) ld_nil))))) (sds_one (sd_ret (ed_tup (ld_cons (ed_var (pv 1)) (ld_cons (ed_var (pv 2)) (ld_cons (ed_ct call_tuple_of cd_tuple (by rfl) T.z_tuple bt_tuple (ld_cons (DLS.ed_sortSet rfl hr.units (by rfl) T.z_sorted bt_sorted (by rfl) T.z_set bt_set (ed_var (pv 3))) ld_nil)) ld_nil))))))))))
theorem sc_is_integer : FnScope ["thing"] ["thing"] (defScope s_is_integer) := ⟨rfl, rfl, rfl, by decide +kernel, rfl, by decide +kernel, by decide +kernel⟩
set_option maxHeartbeats 0 in
theorem ok_is_integer (T : Txt K mg P A B) : FnD P w K mg base 1 A.is_integer B.is_integer ["thing"] (phi_is_integer A) := fn_d (body := d_is_integer A) (N := ["thing"]) (k := 0) T.F_is_integer sc_is_integer fun cdv Ar outer s H E hr => by
  have nd := sc_is_integer.nd
  exact (sds_one (sd_ret (ed_and (ed_cb call_isi (cd_isi T.isC) (by rfl) T.z_isinstance bt_isinstance (ld_cons (ed_var (pv 0)) (ld_cons (ed_c (v := .ty "int") (d := .typ "int") (fun _ _ => .typ _) (pe_bltn (by rfl) T.z_int bt_int rfl)) ld_nil))) (ed_one (ed_not (ed_cb call_isi (cd_isi T.isC) (by rfl) T.z_isinstance bt_isinstance (ld_cons (ed_var (pv 0)) (ld_cons (ed_c (v := .ty "bool") (d := .typ "bool") (fun _ _ => .typ _) (pe_bltn (by rfl) T.z_bool bt_bool rfl)) ld_nil))))))))
theorem sc_is_within : FnScope ["thing", "least", "most"] ["thing", "least", "most"] (defScope s_is_within) := ⟨rfl, rfl, rfl, by decide +kernel, rfl, by decide +kernel, by decide +kernel⟩
set_option maxHeartbeats 0 in
theorem ok_is_within (T : Txt K mg P A B) : FnD P w K mg base 2 A.is_within B.is_within ["thing", "least", "most"] (phi_is_within A) := fn_d (body := d_is_within A) (N := ["thing", "least", "most"]) (k := 1) T.F_is_within sc_is_within fun cdv Ar outer s H E hr => by
  have nd := sc_is_within.nd
  exact (sds_one (sd_ret (ed_and (ed_call (ok_is_integer T) (hr.mono (by decide)) (takes_of rfl rfl rfl rfl) (by rfl) T.m_is_integer T.k_is_integer T.b_is_integer rfl (len_cons len_nil) (ld_cons (ed_var (pv 0)) ld_nil)) (ed_one (ed_chain op_le op_le opd_le opd_le (ed_var (pv 1)) (ed_var (pv 0)) (ed_var (pv 2)))))))
theorem sc_is_triple : FnScope ["thing"] ["thing"] (defScope s_is_triple) := ⟨rfl, rfl, rfl, by decide +kernel, rfl, by decide +kernel, by decide +kernel⟩
set_option maxHeartbeats 0 in
theorem ok_is_triple (T : Txt K mg P A B) : FnD P w K mg base 1 A.is_triple B.is_triple ["thing"] (phi_is_triple A) := fn_d (body := d_is_triple A) (N := ["thing"]) (k := 0) T.F_is_triple sc_is_triple fun cdv Ar outer s H E hr => by
  have nd := sc_is_triple.nd
  exact (sds_one (sd_ret (ed_and (ed_cb call_isi (cd_isi T.isC) (by rfl) T.z_isinstance bt_isinstance (ld_cons (ed_var (pv 0)) (ld_cons (ed_c (v := .ty "tuple") (d := .typ "tuple") (fun _ _ => .typ _) (pe_bltn (by rfl) T.z_tuple bt_tuple rfl)) ld_nil))) (ed_one (ed_cmp (op_eqD hr.units) opd_eq (ed_cb call_len cd_len (by rfl) T.z_len bt_len (ld_cons (ed_var (pv 0)) ld_nil)) ed_int (nomark _))))))
theorem sc_are_integers : FnScope ["thing", "many", "item"] ["thing", "many"] (defScope s_are_integers) := ⟨rfl, rfl, rfl, by decide +kernel, rfl, by decide +kernel, by decide +kernel⟩
set_option maxHeartbeats 0 in
theorem ok_are_integers (T : Txt K mg P A B) : FnD P w K mg base 2 A.are_integers B.are_integers ["thing", "many"] (phi_are_integers A) := fn_d (body := d_are_integers A) (N := ["thing", "many", "item"]) (k := 1) T.F_are_integers sc_are_integers fun cdv Ar outer s H E hr => by
  have nd := sc_are_integers.nd
  exact (sds_one (sd_ret (ed_and (ed_cb call_isi (cd_isi T.isC) (by rfl) T.z_isinstance bt_isinstance (ld_cons (ed_var (pv 0)) (ld_cons (ed_c (v := .ty "tuple") (d := .typ "tuple") (fun _ _ => .typ _) (pe_bltn (by rfl) T.z_tuple bt_tuple rfl)) ld_nil))) (ed_and (ed_cmp (op_eqD hr.units) opd_eq (ed_cb call_len cd_len (by rfl) T.z_len bt_len (ld_cons (ed_var (pv 0)) ld_nil)) (ed_var (pv 1)) (nomark _)) (ed_one (ed_cb (cr_all rfl) cd_all (by rfl) T.z_all bt_all (ld_cons (ed_lc rfl nd (id_seq (ed_var (pv 0))) (blkOk_by (own := [("item", 2)]) (by kernel_rfl)) (by  decide) (fun _ _ _ _ _ => (gd_name (pg_name (i := 2) nd rfl (by first | exact Or.inl rfl | exact Or.inr rfl)))) (fun _ _ _ _ _ => ts_nil) (fun _ _ _ _ _ => (ed_call (ok_is_integer T) (hr.mono (by decide)) takes_none5 (by rfl) T.m_is_integer T.k_is_integer T.b_is_integer rfl (len_cons len_nil) (ld_cons (ed_var (pv 2)) ld_nil)))) ld_nil)))))))
theorem sc_are_within : FnScope ["thing", "many", "least", "most", "item"] ["thing", "many", "least", "most"] (defScope s_are_within) := ⟨rfl, rfl, rfl, by decide +kernel, rfl, by decide +kernel, by decide +kernel⟩
set_option maxHeartbeats 0 in
theorem ok_are_within (T : Txt K mg P A B) : FnD P w K mg base 3 A.are_within B.are_within ["thing", "many", "least", "most"] (phi_are_within A) := fn_d (body := d_are_within A) (N := ["thing", "many", "least", "most", "item"]) (k := 2) T.F_are_within sc_are_within fun cdv Ar outer s H E hr => by
  have nd := sc_are_within.nd
  exact (sds_one (sd_ret (ed_and (ed_call (ok_are_integers T) (hr.mono (by decide)) (takes_of rfl rfl rfl rfl) (by rfl) T.m_are_integers T.k_are_integers T.b_are_integers rfl (len_cons (len_cons len_nil)) (ld_cons (ed_var (pv 0)) (ld_cons (ed_var (pv 1)) ld_nil))) (ed_one (ed_cb (cr_all rfl) cd_all (by rfl) T.z_all bt_all (ld_cons (ed_lc rfl nd (id_seq (ed_var (pv 0))) (blkOk_by (own := [("item", 4)]) (by kernel_rfl)) (by  decide) (fun _ _ _ _ _ => (gd_name (pg_name (i := 4) nd rfl (by first | exact Or.inl rfl | exact Or.inr rfl)))) (fun _ _ _ _ _ => ts_nil) (fun _ _ _ _ _ => (ed_chain op_le op_le opd_le opd_le (ed_var (pv 2)) (ed_var (pv 4)) (ed_var (pv 3))))) ld_nil))))))
theorem sc_is_reading : FnScope ["sides", "tables", "thing"] ["sides", "tables", "thing"] (defScope s_is_reading) := ⟨rfl, rfl, rfl, by decide +kernel, rfl, by decide +kernel, by decide +kernel⟩
set_option maxHeartbeats 0 in
theorem ok_is_reading (T : Txt K mg P A B) : FnD P w K mg base 4 A.is_reading B.is_reading ["sides", "tables", "thing"] (phi_is_reading A) := fn_d (body := d_is_reading A) (N := ["sides", "tables", "thing"]) (k := 3) T.F_is_reading sc_is_reading fun cdv Ar outer s H E hr => by
  have nd := sc_is_reading.nd
  exact (sds_cons (sd_if (td_w (wd_or (td_not (td_val (ed_call (ok_is_triple T) (hr.mono (by decide)) (takes_of rfl rfl rfl rfl) (by rfl) T.m_is_triple T.k_is_triple T.b_is_triple rfl (len_cons len_nil) (ld_cons (ed_var (pv 2)) ld_nil)))) (wd_or (td_not (td_val (ed_call (ok_is_within T) (hr.mono (by decide)) (takes_of rfl rfl rfl rfl) (by rfl) T.m_is_within T.k_is_within T.b_is_within rfl (len_cons (len_cons (len_cons len_nil))) (ld_cons (ed_ix (ed_var (pv 2)) ed_int) (ld_cons ed_int (ld_cons (ed_sub (ed_var (pv 1)) ed_int) ld_nil)))))) (wd_or1 (td_not (td_val (ed_call (ok_is_within T) (hr.mono (by decide)) (takes_of rfl rfl rfl rfl) (by rfl) T.m_is_within T.k_is_within T.b_is_within rfl (len_cons (len_cons (len_cons len_nil))) (ld_cons (ed_ix (ed_var (pv 2)) ed_int) (ld_cons ed_int (ld_cons (ed_sub (ed_var (pv 1)) ed_int) ld_nil)))))))))) (sds_one (sd_ret ed_bl)) sds_nil) (sds_one (sd_ret (ed_call (ok_are_within T) (hr.mono (by decide)) (takes_of rfl rfl rfl rfl) (by rfl) T.m_are_within T.k_are_within T.b_are_within rfl (len_cons (len_cons (len_cons (len_cons len_nil)))) (ld_cons (ed_ix (ed_var (pv 2)) ed_int) (ld_cons (ed_var (pv 0)) (ld_cons (ed_neg (ed_c (v := .int 1000000000000) (fun _ _ => .int _) (pe_gc (by rfl) T.c_MOST_STEP))) (ld_cons (ed_c (v := .int 1000000000000) (fun _ _ => .int _) (pe_gc (by rfl) T.c_MOST_STEP)) ld_nil))))))))
theorem sc_Program_keep : FnScope ["self", "sides", "tables", "readings"] ["self", "sides", "tables", "readings"] (defScope s_Program_keep) := ⟨rfl, rfl, rfl, by decide +kernel, rfl, by decide +kernel, by decide +kernel⟩
set_option maxHeartbeats 0 in
theorem ok_Program_keep (T : Txt K mg P A B) : FnD P w K mg base 1 A.Program_keep B.Program_keep ["self", "sides", "tables", "readings"] (phi_Program_keep A) := fn_d (body := d_Program_keep A) (N := ["self", "sides", "tables", "readings"]) (k := 0) T.F_Program_keep sc_Program_keep fun cdv Ar outer s H E hr => by
  have nd := sc_Program_keep.nd
  exact (sds_cons (sd_fld T.n_Program_sides (ed_var (pv 0)) (ed_var (pv 1))) (sds_cons (sd_fld T.n_Program_tables (ed_var (pv 0)) (ed_var (pv 2))) (sds_one (sd_fld T.n_Program_readings (ed_var (pv 0)) (ed_var (pv 3))))))
theorem sc_Program___init__ : FnScope ["self", "sides", "tables", "readings", "number", "item"] ["self", "sides", "tables", "readings"] (defScope s_Program___init__) := ⟨rfl, rfl, rfl, by decide +kernel, rfl, by decide +kernel, by decide +kernel⟩
set_option maxHeartbeats 0 in
theorem ok_Program___init__ (T : Txt K mg P A B) : FnD P w K mg base 5 A.Program___init__ B.Program___init__ ["self", "sides", "tables", "readings"] (phi_Program___init__ A) := fn_d (body := d_Program___init__ A) (N := ["self", "sides", "tables", "readings", "number", "item"]) (k := 4) T.F_Program___init__ sc_Program___init__ fun cdv Ar outer s H E hr => by
  have nd := sc_Program___init__.nd
  exact (sds_cons (sd_if (td_not (td_val (ed_call (ok_is_within T) (hr.mono (by decide)) (takes_of rfl rfl rfl rfl) (by rfl) T.m_is_within T.k_is_within T.b_is_within rfl (len_cons (len_cons (len_cons len_nil))) (ld_cons (ed_var (pv 1)) (ld_cons ed_int (ld_cons (ed_c (v := .int 4) (fun _ _ => .int _) (pe_gc (by rfl) T.c_MOST_SIDES)) ld_nil)))))) (sds_one (sd_raise1 rfl (takes_of rfl rfl rfl rfl) (pmk1 T.xt_BadProgram T.xn_BadProgram T.nx_BadProgram_part (by decide) (by decide) (by decide) (by decide) (by rfl) T.m_BadProgram T.kk_BadProgram T.ex_BadProgram T.ty_BadProgram hr (ld_cons ed_str ld_nil)))) sds_nil) (sds_cons (sd_if (td_not (td_val (ed_call (ok_is_within T) (hr.mono (by decide)) (takes_of rfl rfl rfl rfl) (by rfl) T.m_is_within T.k_is_within T.b_is_within rfl (len_cons (len_cons (len_cons len_nil))) (ld_cons (ed_var (pv 2)) (ld_cons ed_int (ld_cons (ed_c (v := .int 8) (fun _ _ => .int _) (pe_gc (by rfl) T.c_MOST_TABLES)) ld_nil)))))) (sds_one (sd_raise1 rfl (takes_of rfl rfl rfl rfl) (pmk1 T.xt_BadProgram T.xn_BadProgram T.nx_BadProgram_part (by decide) (by decide) (by decide) (by decide) (by rfl) T.m_BadProgram T.kk_BadProgram T.ex_BadProgram T.ty_BadProgram hr (ld_cons ed_str ld_nil)))) sds_nil) (sds_cons (sd_if (td_w (wd_or (td_not (td_val (ed_cb call_isi (cd_isi T.isC) (by rfl) T.z_isinstance bt_isinstance (ld_cons (ed_var (pv 3)) (ld_cons (ed_c (v := .ty "tuple") (d := .typ "tuple") (fun _ _ => .typ _) (pe_bltn (by rfl) T.z_tuple bt_tuple rfl)) ld_nil))))) (wd_or1 (td_cmp op_gt opd_gt (ed_cb call_len cd_len (by rfl) T.z_len bt_len (ld_cons (ed_var (pv 3)) ld_nil)) (ed_c (v := .int 24) (fun _ _ => .int _) (pe_gc (by rfl) T.c_MOST_READINGS)) (nomark _))))) (sds_one (sd_raise1 rfl (takes_of rfl rfl rfl rfl) (pmk1 T.xt_BadProgram T.xn_BadProgram T.nx_BadProgram_part (by decide) (by decide) (by decide) (by decide) (by rfl) T.m_BadProgram T.kk_BadProgram T.ex_BadProgram T.ty_BadProgram hr (ld_cons ed_str ld_nil)))) sds_nil) (sds_cons (sd_for (passes_of rfl) rfl (id_enum (by rfl) T.z_enumerate (ld_cons (ed_var (pv 3)) ld_nil)) (gd_tup (n := 2) rfl (gds_cons (gd_name (pg_name (i := 4) nd rfl (by first | exact Or.inl rfl | exact Or.inr rfl))) (gds_cons (gd_name (pg_name (i := 5) nd rfl (by first | exact Or.inl rfl | exact Or.inr rfl))) gds_nil))) (sds_one (sd_if (td_w (wd_or (td_not (td_val (ed_call (ok_is_reading T) (hr.mono (by decide)) (takes_of rfl rfl rfl rfl) (by rfl) T.m_is_reading T.k_is_reading T.b_is_reading rfl (len_cons (len_cons (len_cons len_nil))) (ld_cons (ed_var (pv 1)) (ld_cons (ed_var (pv 2)) (ld_cons (ed_var (pv 5)) ld_nil)))))) (wd_or1 (td_w (wd_and (td_cmp op_gt opd_gt (ed_var (pv 4)) ed_int (nomark _)) (wd_and1 (td_cmp (op_leX hr.units) opd_leX (ed_var (pv 5)) (ed_ix (ed_var (pv 3)) (ed_sub (ed_var (pv 4)) ed_int)) (nomark _)))))))) (sds_one (sd_raise1 rfl (takes_of rfl rfl rfl rfl) (pmk1 T.xt_BadProgram T.xn_BadProgram T.nx_BadProgram_part (by decide) (by decide) (by decide) (by decide) (by rfl) T.m_BadProgram T.kk_BadProgram T.ex_BadProgram T.ty_BadProgram hr (ld_cons (ed_var (pv 4)) ld_nil)))) sds_nil))) (sds_one (sd_expr (ed_meth (ed_var (pv 0)) T.kc_Program T.me_Program_keep (ok_Program_keep T) (hr.mono (by decide)) T.b_Program_keep (takes_of rfl rfl rfl rfl) rfl (len_cons (len_cons (len_cons len_nil))) (ld_cons (ed_var (pv 1)) (ld_cons (ed_var (pv 2)) (ld_cons (ed_var (pv 3)) ld_nil))))))))))
theorem sc__law_program : FnScope ["_law_parts_here"] ["_law_parts_here"] (defScope s__law_program) := ⟨rfl, rfl, rfl, by decide +kernel, rfl, by decide +kernel, by decide +kernel⟩
set_option maxHeartbeats 0 in
theorem ok__law_program (T : Txt K mg P A B) : FnD P w K mg base 7 A._law_program B._law_program ["_law_parts_here"] (phi__law_program A) := fn_d (body := d__law_program A) (N := ["_law_parts_here"]) (k := 6) T.F__law_program sc__law_program fun cdv Ar outer s H E hr => by
  have nd := sc__law_program.nd
  exact (sds_one (sd_ret (ed_frz (ed_make T.mk_Program T.kc_Program (ok_Program___init__ T) (hr.mono (by decide)) (takes_of rfl rfl rfl rfl) (by rfl) T.m_Program T.b_Program___init__ rfl (len_cons (len_cons (len_cons len_nil))) (ld_cons (ed_ix (ed_var (pv 0)) ed_int) (ld_cons (ed_ix (ed_var (pv 0)) ed_int) (ld_cons (ed_ix (ed_var (pv 0)) ed_int) ld_nil)))))))
theorem sc__law_doings : FnScope ["_law_pool_here", "_law_sides", "_law_found", "_law_turn", "_law_k", "_law_j"] ["_law_pool_here", "_law_sides"] (defScope s__law_doings) := ⟨rfl, rfl, rfl, by decide +kernel, rfl, by decide +kernel, by decide +kernel⟩
set_option maxHeartbeats 0 in
theorem ok__law_doings (T : Txt K mg P A B) : FnD P w K mg base 3 A._law_doings B._law_doings ["_law_pool_here", "_law_sides"] (phi__law_doings A) := fn_d (body := d__law_doings A) (N := ["_law_pool_here", "_law_sides", "_law_found", "_law_turn", "_law_k", "_law_j"]) (k := 2) T.F__law_doings sc__law_doings fun cdv Ar outer s H E hr => by
  have nd := sc__law_doings.nd
  exact (sds_cons (sd_asg (pg_name (i := 2) nd rfl (by first | exact Or.inl rfl | exact Or.inr rfl)) (ed_cel ld_nil)) (sds_cons (sd_for (passes_of rfl) rfl (id_range1 (by rfl) T.z_range (ld_cons (ed_call (ok__law_draw T) (hr.mono (by decide)) (takes_of rfl rfl rfl rfl) (by rfl) T.m__law_draw T.k__law_draw T.b__law_draw rfl (len_cons (len_cons len_nil)) (ld_cons (ed_var (pv 0)) (ld_cons ed_int ld_nil))) ld_nil)) (gd_name (pg_name (i := 3) nd rfl (by first | exact Or.inl rfl | exact Or.inr rfl))) (sds_cons (sd_asg (pg_name (i := 4) nd rfl (by first | exact Or.inl rfl | exact Or.inr rfl)) (ed_call (ok__law_draw T) (hr.mono (by decide)) (takes_of rfl rfl rfl rfl) (by rfl) T.m__law_draw T.k__law_draw T.b__law_draw rfl (len_cons (len_cons len_nil)) (ld_cons (ed_var (pv 0)) (ld_cons (ed_var (pv 1)) ld_nil)))) (sds_cons (sd_asg (pg_name (i := 5) nd rfl (by first | exact Or.inl rfl | exact Or.inr rfl)) (ed_call (ok__law_draw T) (hr.mono (by decide)) (takes_of rfl rfl rfl rfl) (by rfl) T.m__law_draw T.k__law_draw T.b__law_draw rfl (len_cons (len_cons len_nil)) (ld_cons (ed_var (pv 0)) (ld_cons (ed_var (pv 1)) ld_nil)))) (sds_one (sd_if (td_cmp (op_eqD hr.units) opd_eq (ed_var (pv 4)) (ed_var (pv 5)) (nomark _)) (sds_one (sd_expr (ed_lm PySem.F.slot_list_append PySem.F.type_list_append mt_append md_app (ed_var (pv 2)) (ld_cons (ed_tup (ld_cons (ed_var (pv 4)) (ld_cons (ed_var (pv 4)) (ld_cons ed_int ld_nil)))) ld_nil)))) (sds_one (sd_expr (ed_lm PySem.F.slot_list_append PySem.F.type_list_append mt_append md_app (ed_var (pv 2)) (ld_cons (ed_tup (ld_cons (ed_var (pv 4)) (ld_cons (ed_var (pv 5)) (ld_cons (ed_call (ok__law_some T) (hr.mono (by decide)) (takes_of rfl rfl rfl rfl) (by rfl) T.m__law_some T.k__law_some T.b__law_some rfl (len_cons (len_cons len_nil)) (ld_cons (ed_var (pv 0)) (ld_cons (ed_lst (ld_cons ed_int (ld_cons ed_int (ld_cons (ed_neg ed_int) (ld_cons ed_int (ld_cons (ed_neg ed_int) (ld_cons (ed_pow ed_int ed_int) ld_nil))))))) ld_nil))) ld_nil)))) ld_nil))))))))) (sds_one (sd_ret (ed_var (pv 2))))))
theorem sc__law_plain_matrix : FnScope ["_law_sides", "_law_k", "_law_j"] ["_law_sides"] (defScope s__law_plain_matrix) := ⟨rfl, rfl, rfl, by decide +kernel, rfl, by decide +kernel, by decide +kernel⟩
set_option maxHeartbeats 0 in
theorem ok__law_plain_matrix (T : Txt K mg P A B) : FnD P w K mg base 1 A._law_plain_matrix B._law_plain_matrix ["_law_sides"] (phi__law_plain_matrix A) := fn_d (body := d__law_plain_matrix A) (N := ["_law_sides", "_law_k", "_law_j"]) (k := 0) T.F__law_plain_matrix sc__law_plain_matrix fun cdv Ar outer s H E hr => by
  have nd := sc__law_plain_matrix.nd
  exact (sds_one (sd_ret (ed_lc rfl nd (id_range1 (by rfl) T.z_range (ld_cons (ed_var (pv 0)) ld_nil)) (blkOk_by (own := [("_law_k", 1)]) (by kernel_rfl)) (by  decide) (fun _ _ _ _ _ => (gd_name (pg_name (i := 1) nd rfl (by first | exact Or.inl rfl | exact Or.inr rfl)))) (fun _ _ _ _ _ => ts_nil) (fun _ _ _ _ _ => (ed_lc rfl nd (id_range1 (by rfl) T.z_range (ld_cons (ed_var (pv 0)) ld_nil)) (blkOk_by (own := [("_law_j", 2)]) (by kernel_rfl)) (by  decide) (fun _ _ _ _ _ => (gd_name (pg_name (i := 2) nd rfl (by first | exact Or.inl rfl | exact Or.inr rfl)))) (fun _ _ _ _ _ => ts_nil) (fun _ _ _ _ _ => (ed_ct call_int1 cd_int (by rfl) T.z_int bt_int (ld_cons (ed_cmp (op_eqD hr.units) opd_eq (ed_var (pv 1)) (ed_var (pv 2)) (nomark _)) ld_nil))))))))
theorem sc__law_done : FnScope ["_law_rows", "_law_doing", "_law_made", "_law_k", "_law_j", "_law_many", "_law_row", "_law_item", "_law_place"] ["_law_rows", "_law_doing"] (defScope s__law_done) := ⟨rfl, rfl, rfl, by decide +kernel, rfl, by decide +kernel, by decide +kernel⟩
set_option maxHeartbeats 0 in
theorem ok__law_done (T : Txt K mg P A B) : FnD P w K mg base 1 A._law_done B._law_done ["_law_rows", "_law_doing"] (phi__law_done A) := fn_d (body := d__law_done A) (N := ["_law_rows", "_law_doing", "_law_made", "_law_k", "_law_j", "_law_many", "_law_row", "_law_item", "_law_place"]) (k := 0) T.F__law_done sc__law_done fun cdv Ar outer s H E hr => by
  have nd := sc__law_done.nd
  exact (sds_cons (sd_set (gd_tup (n := 3) rfl (gds_cons (gd_name (pg_name (i := 3) nd rfl (by first | exact Or.inl rfl | exact Or.inr rfl))) (gds_cons (gd_name (pg_name (i := 4) nd rfl (by first | exact Or.inl rfl | exact Or.inr rfl))) (gds_cons (gd_name (pg_name (i := 5) nd rfl (by first | exact Or.inl rfl | exact Or.inr rfl))) gds_nil)))) (ed_var (pv 1))) (sds_cons (sd_lcC (i := 2) rfl nd rfl rfl (sw_true rfl rfl rfl (by kernel_rfl)) (id_seq (ed_var (pv 0))) (blkOk_by (own := [("_law_row", 6)]) (by kernel_rfl)) (by  decide) (fun _ _ _ _ _ => (gd_name (pg_name (i := 6) nd rfl (by first | exact Or.inl rfl | exact Or.inr rfl)))) (fun _ _ _ _ _ => ts_nil) (fun _ _ _ _ _ => (ed_ct call_list_of cd_list (by rfl) T.z_list bt_list (ld_cons (ed_var (pv 6)) ld_nil)))) (sds_cons (sd_if (td_cmp (op_eqD hr.units) opd_eq (ed_var (pv 3)) (ed_var (pv 4)) (nomark _)) (sds_one (sd_put (ed_var (pv 2)) (ed_var (pv 3)) (ed_lc rfl nd (id_seq (ed_ix (ed_var (pv 0)) (ed_var (pv 3)))) (blkOk_by (own := [("_law_item", 7)]) (by kernel_rfl)) (by  decide) (fun _ _ _ _ _ => (gd_name (pg_name (i := 7) nd rfl (by first | exact Or.inl rfl | exact Or.inr rfl)))) (fun _ _ _ _ _ => ts_nil) (fun _ _ _ _ _ => (ed_sub ed_int (ed_var (pv 7))))))) (sds_one (sd_if (td_cmp (op_eqD hr.units) opd_eq (ed_var (pv 5)) ed_int (nomark _)) (sds_cons (sd_put (ed_var (pv 2)) (ed_var (pv 3)) (ed_ct call_list_of cd_list (by rfl) T.z_list bt_list (ld_cons (ed_ix (ed_var (pv 0)) (ed_var (pv 4))) ld_nil))) (sds_one (sd_put (ed_var (pv 2)) (ed_var (pv 4)) (ed_ct call_list_of cd_list (by rfl) T.z_list bt_list (ld_cons (ed_ix (ed_var (pv 0)) (ed_var (pv 3))) ld_nil))))) (sds_one (sd_put (ed_var (pv 2)) (ed_var (pv 3)) (ed_lc rfl nd (id_range1 (by rfl) T.z_range (ld_cons (ed_cb call_len cd_len (by rfl) T.z_len bt_len (ld_cons (ed_var (pv 0)) ld_nil)) ld_nil)) (blkOk_by (own := [("_law_place", 8)]) (by kernel_rfl)) (by  decide) (fun _ _ _ _ _ => (gd_name (pg_name (i := 8) nd rfl (by first | exact Or.inl rfl | exact Or.inr rfl)))) (fun _ _ _ _ _ => ts_nil) (fun _ _ _ _ _ => (ed_addX (ed_ix (ed_ix (ed_var (pv 0)) (ed_var (pv 3))) (ed_var (pv 8))) (ed_mulX (ed_var (pv 5)) (ed_ix (ed_ix (ed_var (pv 0)) (ed_var (pv 4))) (ed_var (pv 8)))))))))))) (sds_one (sd_ret (ed_var (pv 2)))))))
theorem sc__law_matrix : FnScope ["_law_sides", "_law_doings_here", "_law_rows", "_law_doing", "_law_row"] ["_law_sides", "_law_doings_here"] (defScope s__law_matrix) := ⟨rfl, rfl, rfl, by decide +kernel, rfl, by decide +kernel, by decide +kernel⟩
set_option maxHeartbeats 0 in
theorem ok__law_matrix (T : Txt K mg P A B) : FnD P w K mg base 2 A._law_matrix B._law_matrix ["_law_sides", "_law_doings_here"] (phi__law_matrix A) := fn_d (body := d__law_matrix A) (N := ["_law_sides", "_law_doings_here", "_law_rows", "_law_doing", "_law_row"]) (k := 1) T.F__law_matrix sc__law_matrix fun cdv Ar outer s H E hr => by
  have nd := sc__law_matrix.nd
  exact (sds_cons (sd_asg (pg_name (i := 2) nd rfl (by first | exact Or.inl rfl | exact Or.inr rfl)) (ed_call (ok__law_plain_matrix T) (hr.mono (by decide)) (takes_of rfl rfl rfl rfl) (by rfl) T.m__law_plain_matrix T.k__law_plain_matrix T.b__law_plain_matrix rfl (len_cons len_nil) (ld_cons (ed_var (pv 0)) ld_nil))) (sds_cons (sd_for (passes_of rfl) rfl (id_seq (ed_var (pv 1))) (gd_name (pg_name (i := 3) nd rfl (by first | exact Or.inl rfl | exact Or.inr rfl))) (sds_one (sd_asg (pg_name (i := 2) nd rfl (by first | exact Or.inl rfl | exact Or.inr rfl)) (ed_call (ok__law_done T) (hr.mono (by decide)) (takes_of rfl rfl rfl rfl) (by rfl) T.m__law_done T.k__law_done T.b__law_done rfl (len_cons (len_cons len_nil)) (ld_cons (ed_var (pv 2)) (ld_cons (ed_var (pv 3)) ld_nil)))))) (sds_one (sd_ret (ed_ct call_tuple_of cd_tuple (by rfl) T.z_tuple bt_tuple (ld_cons (ed_lc rfl nd (id_seq (ed_var (pv 2))) (blkOk_by (own := [("_law_row", 4)]) (by kernel_rfl)) (by  decide) (fun _ _ _ _ _ => (gd_name (pg_name (i := 4) nd rfl (by first | exact Or.inl rfl | exact Or.inr rfl)))) (fun _ _ _ _ _ => ts_nil) (fun _ _ _ _ _ => (ed_ct call_tuple_of cd_tuple (by rfl) T.z_tuple bt_tuple (ld_cons (ed_var (pv 4)) ld_nil)))) ld_nil))))))
theorem sc_determinant : FnScope ["matrix", "found", "place", "item", "rest", "row"] ["matrix"] (defScope s_determinant) := ⟨rfl, rfl, rfl, by decide +kernel, rfl, by decide +kernel, by decide +kernel⟩
set_option maxHeartbeats 0 in
theorem ok_determinant (T : Txt K mg P A B) : FnD P w K mg base 7 A.determinant B.determinant ["matrix"] (phi_determinant A) := fn_rec (step := fun psi => defD 6 (d_determinant A psi)) 1 (fun k psi hk0 hpsi => fn_d (body := d_determinant A psi) (N := ["matrix", "found", "place", "item", "rest", "row"]) (k := k) T.F_determinant sc_determinant fun cdv Ar outer s H E hr => by
  have nd := sc_determinant.nd
  exact (sds_cons (sd_if (td_cmp (op_eqD hr.units) opd_eq (ed_cb call_len cd_len (by rfl) T.z_len bt_len (ld_cons (ed_var (pv 0)) ld_nil)) ed_int (nomark _)) (sds_one (sd_ret ed_int)) sds_nil) (sds_cons (sd_asg (pg_name (i := 1) nd rfl (by first | exact Or.inl rfl | exact Or.inr rfl)) ed_int) (sds_cons (sd_for (passes_of rfl) rfl (id_enum (by rfl) T.z_enumerate (ld_cons (ed_ix (ed_var (pv 0)) ed_int) ld_nil)) (gd_tup (n := 2) rfl (gds_cons (gd_name (pg_name (i := 2) nd rfl (by first | exact Or.inl rfl | exact Or.inr rfl))) (gds_cons (gd_name (pg_name (i := 3) nd rfl (by first | exact Or.inl rfl | exact Or.inr rfl))) gds_nil))) (sds_cons (sd_lc (i := 4) rfl nd rfl rfl (sw_true rfl rfl rfl (by kernel_rfl)) (id_seq (ed_sl (ed_var (pv 0)) (od_some ed_int) od_none)) (blkOk_by (own := [("row", 5)]) (by kernel_rfl)) (by  decide) (fun _ _ _ _ _ => (gd_name (pg_name (i := 5) nd rfl (by first | exact Or.inl rfl | exact Or.inr rfl)))) (fun _ _ _ _ _ => ts_nil) (fun _ _ _ _ _ => (ed_addX (ed_sl (ed_var (pv 5)) od_none (od_some (ed_var (pv 2)))) (ed_sl (ed_var (pv 5)) (od_some (ed_addX (ed_var (pv 2)) ed_int)) od_none)))) (sds_one (sd_aug (i := 1) nd rfl (by first | exact Or.inl rfl | exact Or.inr rfl) (ed_mulX (ed_mulX (ed_var (pv 3)) (ed_call hpsi (hr.mono (Nat.le_refl _)) (takes_of rfl rfl rfl rfl) (by rfl) T.m_determinant T.k_determinant T.b_determinant rfl (len_cons len_nil) (ld_cons (ed_var (pv 4)) ld_nil))) (ed_if (td_cmp (op_eqD hr.units) opd_eq (ed_mod (ed_var (pv 2)) ed_int) ed_int (nomark _)) ed_int (ed_neg ed_int))) iop_add opd_add)))) (sds_one (sd_ret (ed_var (pv 1)))))))) 6
theorem sc_dot : FnScope ["row", "step", "one", "other"] ["row", "step"] (defScope s_dot) := ⟨rfl, rfl, rfl, by decide +kernel, rfl, by decide +kernel, by decide +kernel⟩
set_option maxHeartbeats 0 in
theorem ok_dot (T : Txt K mg P A B) : FnD P w K mg base 1 A.dot B.dot ["row", "step"] (phi_dot A) := fn_d (body := d_dot A) (N := ["row", "step", "one", "other"]) (k := 0) T.F_dot sc_dot fun cdv Ar outer s H E hr => by
  have nd := sc_dot.nd
  exact (sds_one (sd_ret (ed_cb (cr_sum rfl) cd_sum (by rfl) T.z_sum bt_sum (ld_cons (ed_lc rfl nd (id_zip2 (by rfl) T.z_zip (ld_cons (ed_var (pv 0)) (ld_cons (ed_var (pv 1)) ld_nil))) (blkOk_by (own := [("one", 2), ("other", 3)]) (by kernel_rfl)) (by  decide) (fun _ _ _ _ _ => (gd_tup (n := 2) rfl (gds_cons (gd_name (pg_name (i := 2) nd rfl (by first | exact Or.inl rfl | exact Or.inr rfl))) (gds_cons (gd_name (pg_name (i := 3) nd rfl (by first | exact Or.inl rfl | exact Or.inr rfl))) gds_nil)))) (fun _ _ _ _ _ => ts_nil) (fun _ _ _ _ _ => (ed_mulX (ed_var (pv 2)) (ed_var (pv 3))))) ld_nil))))
theorem sc_program_of : FnScope ["sides", "tables", "readings", "found"] ["sides", "tables", "readings"] (defScope s_program_of) := ⟨rfl, rfl, rfl, by decide +kernel, rfl, by decide +kernel, by decide +kernel⟩
set_option maxHeartbeats 0 in
theorem ok_program_of (T : Txt K mg P A B) : FnD P w K mg base 7 A.program_of B.program_of ["sides", "tables", "readings"] (phi_program_of A) := fn_d (body := d_program_of A) (N := ["sides", "tables", "readings", "found"]) (k := 6) T.F_program_of sc_program_of fun cdv Ar outer s H E hr => by
  have nd := sc_program_of.nd
  exact (sds_cons (sd_asg (pg_name (i := 3) nd rfl (by first | exact Or.inl rfl | exact Or.inr rfl)) (ed_make T.mk_Program T.kc_Program (ok_Program___init__ T) (hr.mono (by decide)) (takes_of rfl rfl rfl rfl) (by rfl) T.m_Program T.b_Program___init__ rfl (len_cons (len_cons (len_cons len_nil))) (ld_cons ed_int (ld_cons ed_int (ld_cons (ed_tup ld_nil) ld_nil))))) (sds_cons (sd_expr (ed_meth (ed_var (pv 3)) T.kc_Program T.me_Program_keep (ok_Program_keep T) (hr.mono (by decide)) T.b_Program_keep (takes_of rfl rfl rfl rfl) rfl (len_cons (len_cons (len_cons len_nil))) (ld_cons (ed_var (pv 0)) (ld_cons (ed_var (pv 1)) (ld_cons (ed_ct call_tuple_of cd_tuple (by rfl) T.z_tuple bt_tuple (ld_cons (DLS.ed_sortSet rfl hr.units (by rfl) T.z_sorted bt_sorted (by rfl) T.z_set bt_set (ed_var (pv 2))) ld_nil)) ld_nil))))) (sds_one (sd_ret (ed_var (pv 3))))))
theorem sc_turned : FnScope ["program", "matrix", "sides", "readings", "reader", "read", "step", "row"] ["program", "matrix"] (defScope s_turned) := ⟨rfl, rfl, rfl, by decide +kernel, rfl, by decide +kernel, by decide +kernel⟩
set_option maxHeartbeats 0 in
theorem ok_turned (T : Txt K mg P A B) : FnD P w K mg base 8 A.turned B.turned ["program", "matrix"] (phi_turned A) := fn_d (body := d_turned A) (N := ["program", "matrix", "sides", "readings", "reader", "read", "step", "row"]) (k := 7) T.F_turned sc_turned fun cdv Ar outer s H E hr => by
  have nd := sc_turned.nd
  exact (sds_cons (sd_asg (pg_name (i := 2) nd rfl (by first | exact Or.inl rfl | exact Or.inr rfl)) (ed_fld T.n_Program_sides (ed_var (pv 0)))) (sds_cons (sd_if (td_w (wd_or (td_not (td_val (ed_cb call_isi (cd_isi T.isC) (by rfl) T.z_isinstance bt_isinstance (ld_cons (ed_var (pv 1)) (ld_cons (ed_c (v := .ty "tuple") (d := .typ "tuple") (fun _ _ => .typ _) (pe_bltn (by rfl) T.z_tuple bt_tuple rfl)) ld_nil))))) (wd_or (td_cmp (op_neD hr.units) opd_ne (ed_cb call_len cd_len (by rfl) T.z_len bt_len (ld_cons (ed_var (pv 1)) ld_nil)) (ed_var (pv 2)) (nomark _)) (wd_or1 (td_not (td_val (ed_cb (cr_all rfl) cd_all (by rfl) T.z_all bt_all (ld_cons (ed_lc rfl nd (id_seq (ed_var (pv 1))) (blkOk_by (own := [("row", 7)]) (by kernel_rfl)) (by  decide) (fun _ _ _ _ _ => (gd_name (pg_name (i := 7) nd rfl (by first | exact Or.inl rfl | exact Or.inr rfl)))) (fun _ _ _ _ _ => ts_nil) (fun _ _ _ _ _ => (ed_call (ok_are_integers T) (hr.mono (by decide)) takes_none5 (by rfl) T.m_are_integers T.k_are_integers T.b_are_integers rfl (len_cons (len_cons len_nil)) (ld_cons (ed_var (pv 7)) (ld_cons (ed_var (pv 2)) ld_nil))))) ld_nil)))))))) (sds_one (sd_raise0 rfl (takes_of rfl rfl rfl rfl) (pmk0 T.xt_NoMatrix T.xn_NoMatrix (by rfl) T.m_NoMatrix T.kk_NoMatrix T.ex_NoMatrix T.ty_NoMatrix hr))) sds_nil) (sds_cons (sd_if (td_cmp op_notIn_seq opd_in (ed_call (ok_determinant T) (hr.mono (by decide)) (takes_of rfl rfl rfl rfl) (by rfl) T.m_determinant T.k_determinant T.b_determinant rfl (len_cons len_nil) (ld_cons (ed_var (pv 1)) ld_nil)) (ed_tup (ld_cons ed_int (ld_cons (ed_neg ed_int) ld_nil))) (by with_unfolding_all rfl)) (sds_one (sd_raise0 rfl (takes_of rfl rfl rfl rfl) (pmk0 T.xt_NoMatrix T.xn_NoMatrix (by rfl) T.m_NoMatrix T.kk_NoMatrix T.ex_NoMatrix T.ty_NoMatrix hr))) sds_nil) (sds_cons (sd_asg (pg_name (i := 3) nd rfl (by first | exact Or.inl rfl | exact Or.inr rfl)) (ed_cel ld_nil)) (sds_cons (sd_for (passes_of rfl) rfl (id_seq (ed_fld T.n_Program_readings (ed_var (pv 0)))) (gd_tup (n := 3) rfl (gds_cons (gd_name (pg_name (i := 4) nd rfl (by first | exact Or.inl rfl | exact Or.inr rfl))) (gds_cons (gd_name (pg_name (i := 5) nd rfl (by first | exact Or.inl rfl | exact Or.inr rfl))) (gds_cons (gd_name (pg_name (i := 6) nd rfl (by first | exact Or.inl rfl | exact Or.inr rfl))) gds_nil)))) (sds_one (sd_expr (ed_lm PySem.F.slot_list_append PySem.F.type_list_append mt_append md_app (ed_var (pv 3)) (ld_cons (ed_tup (ld_cons (ed_var (pv 4)) (ld_cons (ed_var (pv 5)) (ld_cons (ed_ct call_tuple_of cd_tuple (by rfl) T.z_tuple bt_tuple (ld_cons (ed_lc rfl nd (id_seq (ed_var (pv 1))) (blkOk_by (own := [("row", 7)]) (by kernel_rfl)) (by  decide) (fun _ _ _ _ _ => (gd_name (pg_name (i := 7) nd rfl (by first | exact Or.inl rfl | exact Or.inr rfl)))) (fun _ _ _ _ _ => ts_nil) (fun _ _ _ _ _ => (ed_call (ok_dot T) (hr.mono (by decide)) takes_none5 (by rfl) T.m_dot T.k_dot T.b_dot rfl (len_cons (len_cons len_nil)) (ld_cons (ed_var (pv 7)) (ld_cons (ed_var (pv 6)) ld_nil))))) ld_nil)) ld_nil)))) ld_nil))))) (sds_one (sd_ret (ed_call (ok_program_of T) (hr.mono (by decide)) (takes_of rfl rfl rfl rfl) (by rfl) T.m_program_of T.k_program_of T.b_program_of rfl (len_cons (len_cons (len_cons len_nil))) (ld_cons (ed_var (pv 2)) (ld_cons (ed_fld T.n_Program_tables (ed_var (pv 0))) (ld_cons (ed_var (pv 3)) ld_nil)))))))))))
theorem sc__law_integer : FnScope ["_law_thing"] ["_law_thing"] (defScope s__law_integer) := ⟨rfl, rfl, rfl, by decide +kernel, rfl, by decide +kernel, by decide +kernel⟩
set_option maxHeartbeats 0 in
theorem ok__law_integer (T : Txt K mg P A B) : FnD P w K mg base 1 A._law_integer B._law_integer ["_law_thing"] (phi__law_integer A) := fn_d (body := d__law_integer A) (N := ["_law_thing"]) (k := 0) T.F__law_integer sc__law_integer fun cdv Ar outer s H E hr => by
  have nd := sc__law_integer.nd
  exact (sds_one (sd_ret (ed_and (ed_cb call_isi (cd_isi T.isC) (by rfl) T.z_isinstance bt_isinstance (ld_cons (ed_var (pv 0)) (ld_cons (ed_c (v := .ty "int") (d := .typ "int") (fun _ _ => .typ _) (pe_bltn (by rfl) T.z_int bt_int rfl)) ld_nil))) (ed_one (ed_not (ed_cb call_isi (cd_isi T.isC) (by rfl) T.z_isinstance bt_isinstance (ld_cons (ed_var (pv 0)) (ld_cons (ed_c (v := .ty "bool") (d := .typ "bool") (fun _ _ => .typ _) (pe_bltn (by rfl) T.z_bool bt_bool rfl)) ld_nil))))))))
theorem sc__law_same : FnScope ["_law_actual", "_law_expected", "_law_k"] ["_law_actual", "_law_expected"] (defScope s__law_same) := ⟨rfl, rfl, rfl, by decide +kernel, rfl, by decide +kernel, by decide +kernel⟩
set_option maxHeartbeats 0 in
theorem ok__law_same (T : Txt K mg P A B) : FnD P w K mg base 8 A._law_same B._law_same ["_law_actual", "_law_expected"] (phi__law_same A) := fn_rec (step := fun psi => defD 3 (d__law_same A psi)) 2 (fun k psi hk0 hpsi => fn_d (body := d__law_same A psi) (N := ["_law_actual", "_law_expected", "_law_k"]) (k := k) T.F__law_same sc__law_same fun cdv Ar outer s H E hr => by
  have nd := sc__law_same.nd
  exact (sds_cons (sd_if (td_cmp op_isN opd_isN (ed_var (pv 1)) ed_non (nomark _)) (sds_one (sd_ret (ed_cmp op_isN opd_isN (ed_var (pv 0)) ed_non (nomark _)))) sds_nil) (sds_cons (sd_if (td_val (ed_cb call_isi (cd_isi T.isC) (by rfl) T.z_isinstance bt_isinstance (ld_cons (ed_var (pv 1)) (ld_cons (ed_c (v := .ty "bool") (d := .typ "bool") (fun _ _ => .typ _) (pe_bltn (by rfl) T.z_bool bt_bool rfl)) ld_nil)))) (sds_one (sd_ret (ed_and (ed_cb call_isi (cd_isi T.isC) (by rfl) T.z_isinstance bt_isinstance (ld_cons (ed_var (pv 0)) (ld_cons (ed_c (v := .ty "bool") (d := .typ "bool") (fun _ _ => .typ _) (pe_bltn (by rfl) T.z_bool bt_bool rfl)) ld_nil))) (ed_one (ed_cmp (op_eqD hr.units) opd_eq (ed_var (pv 0)) (ed_var (pv 1)) (nomark _)))))) sds_nil) (sds_cons (sd_if (td_val (ed_cb call_isi (cd_isi T.isC) (by rfl) T.z_isinstance bt_isinstance (ld_cons (ed_var (pv 1)) (ld_cons (ed_c (v := .ty "int") (d := .typ "int") (fun _ _ => .typ _) (pe_bltn (by rfl) T.z_int bt_int rfl)) ld_nil)))) (sds_one (sd_ret (ed_and (ed_call (ok__law_integer T) (hr.mono (by omega)) (takes_of rfl rfl rfl rfl) (by rfl) T.m__law_integer T.k__law_integer T.b__law_integer rfl (len_cons len_nil) (ld_cons (ed_var (pv 0)) ld_nil)) (ed_one (ed_cmp (op_eqD hr.units) opd_eq (ed_var (pv 0)) (ed_var (pv 1)) (nomark _)))))) sds_nil) (sds_cons (sd_if (td_val (ed_cb call_isi (cd_isi T.isC) (by rfl) T.z_isinstance bt_isinstance (ld_cons (ed_var (pv 1)) (ld_cons (ed_c (v := .ty "str") (d := .typ "str") (fun _ _ => .typ _) (pe_bltn (by rfl) T.z_str bt_str rfl)) ld_nil)))) (sds_one (sd_ret (ed_and (ed_cb call_isi (cd_isi T.isC) (by rfl) T.z_isinstance bt_isinstance (ld_cons (ed_var (pv 0)) (ld_cons (ed_c (v := .ty "str") (d := .typ "str") (fun _ _ => .typ _) (pe_bltn (by rfl) T.z_str bt_str rfl)) ld_nil))) (ed_one (ed_cmp (op_eqD hr.units) opd_eq (ed_var (pv 0)) (ed_var (pv 1)) (nomark _)))))) sds_nil) (sds_cons (sd_if (td_w (wd_and (td_val (ed_cb call_isi (cd_isi T.isC) (by rfl) T.z_isinstance bt_isinstance (ld_cons (ed_var (pv 1)) (ld_cons (ed_c (v := .ty "tuple") (d := .typ "tuple") (fun _ _ => .typ _) (pe_bltn (by rfl) T.z_tuple bt_tuple rfl)) ld_nil)))) (wd_and1 (td_not (td_val (ed_cb call_isi (cd_isi T.isC) (by rfl) T.z_isinstance bt_isinstance (ld_cons (ed_var (pv 0)) (ld_cons (ed_c (v := .ty "tuple") (d := .typ "tuple") (fun _ _ => .typ _) (pe_bltn (by rfl) T.z_tuple bt_tuple rfl)) ld_nil)))))))) (sds_one (sd_ret ed_bl)) sds_nil) (sds_cons (sd_if (td_w (wd_and (td_val (ed_cb call_isi (cd_isi T.isC) (by rfl) T.z_isinstance bt_isinstance (ld_cons (ed_var (pv 1)) (ld_cons (ed_c (v := .ty "list") (d := .typ "list") (fun _ _ => .typ _) (pe_bltn (by rfl) T.z_list bt_list rfl)) ld_nil)))) (wd_and1 (td_not (td_val (ed_cb call_isi (cd_isi T.isC) (by rfl) T.z_isinstance bt_isinstance (ld_cons (ed_var (pv 0)) (ld_cons (ed_c (v := .ty "list") (d := .typ "list") (fun _ _ => .typ _) (pe_bltn (by rfl) T.z_list bt_list rfl)) ld_nil)))))))) (sds_one (sd_ret ed_bl)) sds_nil) (sds_cons (sd_if (td_cmp (op_neD hr.units) opd_ne (ed_cb call_len cd_len (by rfl) T.z_len bt_len (ld_cons (ed_var (pv 0)) ld_nil)) (ed_cb call_len cd_len (by rfl) T.z_len bt_len (ld_cons (ed_var (pv 1)) ld_nil)) (nomark _)) (sds_one (sd_ret ed_bl)) sds_nil) (sds_cons (sd_for (passes_of rfl) rfl (id_range1 (by rfl) T.z_range (ld_cons (ed_cb call_len cd_len (by rfl) T.z_len bt_len (ld_cons (ed_var (pv 1)) ld_nil)) ld_nil)) (gd_name (pg_name (i := 2) nd rfl (by first | exact Or.inl rfl | exact Or.inr rfl))) (sds_one (sd_if (td_not (td_val (ed_call hpsi (hr.mono (Nat.le_refl _)) (takes_of rfl rfl rfl rfl) (by rfl) T.m__law_same T.k__law_same T.b__law_same rfl (len_cons (len_cons len_nil)) (ld_cons (ed_ix (ed_var (pv 0)) (ed_var (pv 2))) (ld_cons (ed_ix (ed_var (pv 1)) (ed_var (pv 2))) ld_nil))))) (sds_one (sd_ret ed_bl)) sds_nil))) (sds_one (sd_ret ed_bl))))))))))) 6
theorem sc__law_is : FnScope ["_law_program_here", "_law_parts_here"] ["_law_program_here", "_law_parts_here"] (defScope s__law_is) := ⟨rfl, rfl, rfl, by decide +kernel, rfl, by decide +kernel, by decide +kernel⟩
set_option maxHeartbeats 0 in
theorem ok__law_is (T : Txt K mg P A B) : FnD P w K mg base 9 A._law_is B._law_is ["_law_program_here", "_law_parts_here"] (phi__law_is A) := fn_d (body := d__law_is A) (N := ["_law_program_here", "_law_parts_here"]) (k := 8) T.F__law_is sc__law_is fun cdv Ar outer s H E hr => by
  have nd := sc__law_is.nd
  exact (sds_cons (sd_if (td_not (td_val (ed_cb call_isi (cd_isi T.isC) (by rfl) T.z_isinstance bt_isinstance (ld_cons (ed_var (pv 0)) (ld_cons (ed_c (v := .ref A.Program) (d := .adr A.Program) (fun _ _ => .adr _) (pe_glob (by rfl) T.m_Program rfl)) ld_nil))))) (sds_one (sd_ret ed_bl)) sds_nil) (sds_one (sd_ret (ed_call (ok__law_same T) (hr.mono (by decide)) (takes_of rfl rfl rfl rfl) (by rfl) T.m__law_same T.k__law_same T.b__law_same rfl (len_cons (len_cons len_nil)) (ld_cons (ed_tup (ld_cons (ed_fld T.n_Program_sides (ed_var (pv 0))) (ld_cons (ed_fld T.n_Program_tables (ed_var (pv 0))) (ld_cons (ed_fld T.n_Program_readings (ed_var (pv 0))) ld_nil)))) (ld_cons (ed_var (pv 1)) ld_nil))))))
theorem sc__law_led : FnScope ["_law_matrix_here", "_law_step_here", "_law_row", "_law_place"] ["_law_matrix_here", "_law_step_here"] (defScope s__law_led) := ⟨rfl, rfl, rfl, by decide +kernel, rfl, by decide +kernel, by decide +kernel⟩
set_option maxHeartbeats 0 in
theorem ok__law_led (T : Txt K mg P A B) : FnD P w K mg base 1 A._law_led B._law_led ["_law_matrix_here", "_law_step_here"] (phi__law_led A) := fn_d (body := d__law_led A) (N := ["_law_matrix_here", "_law_step_here", "_law_row", "_law_place"]) (k := 0) T.F__law_led sc__law_led fun cdv Ar outer s H E hr => by
  have nd := sc__law_led.nd
  exact (sds_one (sd_ret (ed_ct call_tuple_of cd_tuple (by rfl) T.z_tuple bt_tuple (ld_cons (ed_lc rfl nd (id_seq (ed_var (pv 0))) (blkOk_by (own := [("_law_row", 2)]) (by kernel_rfl)) (by  decide) (fun _ _ _ _ _ => (gd_name (pg_name (i := 2) nd rfl (by first | exact Or.inl rfl | exact Or.inr rfl)))) (fun _ _ _ _ _ => ts_nil) (fun _ _ _ _ _ => (ed_cb (cr_sum rfl) cd_sum (by rfl) T.z_sum bt_sum (ld_cons (ed_lc rfl nd (id_range1 (by rfl) T.z_range (ld_cons (ed_cb call_len cd_len (by rfl) T.z_len bt_len (ld_cons (ed_var (pv 1)) ld_nil)) ld_nil)) (blkOk_by (own := [("_law_place", 3)]) (by kernel_rfl)) (by  decide) (fun _ _ _ _ _ => (gd_name (pg_name (i := 3) nd rfl (by first | exact Or.inl rfl | exact Or.inr rfl)))) (fun _ _ _ _ _ => ts_nil) (fun _ _ _ _ _ => (ed_mulX (ed_ix (ed_var (pv 2)) (ed_var (pv 3))) (ed_ix (ed_var (pv 1)) (ed_var (pv 3)))))) ld_nil)))) ld_nil))))
theorem sc__law_sorted_parts : FnScope ["_law_sides", "_law_tables", "_law_readings"] ["_law_sides", "_law_tables", "_law_readings"] (defScope s__law_sorted_parts) := ⟨rfl, rfl, rfl, by decide +kernel, rfl, by decide +kernel, by decide +kernel⟩
set_option maxHeartbeats 0 in
theorem ok__law_sorted_parts (T : Txt K mg P A B) : FnD P w K mg base 1 A._law_sorted_parts B._law_sorted_parts ["_law_sides", "_law_tables", "_law_readings"] (phi__law_sorted_parts A) := fn_d (body := d__law_sorted_parts A) (N := ["_law_sides", "_law_tables", "_law_readings"]) (k := 0) T.F__law_sorted_parts sc__law_sorted_parts fun cdv Ar outer s H E hr => by
  have nd := sc__law_sorted_parts.nd
  exact (sds_one (sd_ret (ed_tup (ld_cons (ed_var (pv 0)) (ld_cons (ed_var (pv 1)) (ld_cons (ed_ct call_tuple_of cd_tuple (by rfl) T.z_tuple bt_tuple (ld_cons (DLS.ed_sortSet rfl hr.units (by rfl) T.z_sorted bt_sorted (by rfl) T.z_set bt_set (ed_var (pv 2))) ld_nil)) ld_nil))))))
theorem sc__law_turned : FnScope ["_law_parts_here", "_law_matrix_here", "_law_found", "_law_reading"] ["_law_parts_here", "_law_matrix_here"] (defScope s__law_turned) := ⟨rfl, rfl, rfl, by decide +kernel, rfl, by decide +kernel, by decide +kernel⟩
set_option maxHeartbeats 0 in
theorem ok__law_turned (T : Txt K mg P A B) : FnD P w K mg base 2 A._law_turned B._law_turned ["_law_parts_here", "_law_matrix_here"] (phi__law_turned A) := fn_d (body := d__law_turned A) (N := ["_law_parts_here", "_law_matrix_here", "_law_found", "_law_reading"]) (k := 1) T.F__law_turned sc__law_turned fun cdv Ar outer s H E hr => by
  have nd := sc__law_turned.nd
  exact (sds_cons (sd_lc (i := 2) rfl nd rfl rfl (sw_true rfl rfl rfl (by kernel_rfl)) (id_seq (ed_ix (ed_var (pv 0)) ed_int)) (blkOk_by (own := [("_law_reading", 3)]) (by kernel_rfl)) (by  decide) (fun _ _ _ _ _ => (gd_name (pg_name (i := 3) nd rfl (by first | exact Or.inl rfl | exact Or.inr rfl)))) (fun _ _ _ _ _ => ts_nil) (fun _ _ _ _ _ => (ed_tup (ld_cons (ed_ix (ed_var (pv 3)) ed_int) (ld_cons (ed_ix (ed_var (pv 3)) ed_int) (ld_cons (ed_call (ok__law_led T) (hr.mono (by decide)) takes_none5 (by rfl) T.m__law_led T.k__law_led T.b__law_led rfl (len_cons (len_cons len_nil)) (ld_cons (ed_var (pv 1)) (ld_cons (ed_ix (ed_var (pv 3)) ed_int) ld_nil))) ld_nil)))))) (sds_one (sd_ret (ed_call (ok__law_sorted_parts T) (hr.mono (by decide)) (takes_of rfl rfl rfl rfl) (by rfl) T.m__law_sorted_parts T.k__law_sorted_parts T.b__law_sorted_parts rfl (len_cons (len_cons (len_cons len_nil))) (ld_cons (ed_ix (ed_var (pv 0)) ed_int) (ld_cons (ed_ix (ed_var (pv 0)) ed_int) (ld_cons (ed_var (pv 2)) ld_nil)))))))
theorem sc_Program___eq__ : FnScope ["self", "other"] ["self", "other"] (defScope s_Program___eq__) := ⟨rfl, rfl, rfl, by decide +kernel, rfl, by decide +kernel, by decide +kernel⟩
set_option maxHeartbeats 0 in
theorem ok_Program___eq__ (T : Txt K mg P A B) : FnD P w K mg base 1 A.Program___eq__ B.Program___eq__ ["self", "other"] (phi_Program___eq__ A) := fn_d (body := d_Program___eq__ A) (N := ["self", "other"]) (k := 0) T.F_Program___eq__ sc_Program___eq__ fun cdv Ar outer s H E hr => by
  have nd := sc_Program___eq__.nd
  exact (sds_cons (sd_if (td_not (td_val (ed_cb call_isi (cd_isi T.isC) (by rfl) T.z_isinstance bt_isinstance (ld_cons (ed_var (pv 1)) (ld_cons (ed_c (v := .ref A.Program) (d := .adr A.Program) (fun _ _ => .adr _) (pe_glob (by rfl) T.m_Program rfl)) ld_nil))))) (sds_one (sd_ret ed_bl)) sds_nil) (sds_one (sd_ret (ed_cmp (op_eqD hr.units) opd_eq (ed_tup (ld_cons (ed_fld T.n_Program_sides (ed_var (pv 0))) (ld_cons (ed_fld T.n_Program_tables (ed_var (pv 0))) (ld_cons (ed_fld T.n_Program_readings (ed_var (pv 0))) ld_nil)))) (ed_tup (ld_cons (ed_fld T.n_Program_sides (ed_var (pv 1))) (ld_cons (ed_fld T.n_Program_tables (ed_var (pv 1))) (ld_cons (ed_fld T.n_Program_readings (ed_var (pv 1))) ld_nil)))) (nomark _)))))
theorem sc_check_number : FnScope ["thing", "least", "most"] ["thing", "least", "most"] (defScope s_check_number) := ⟨rfl, rfl, rfl, by decide +kernel, rfl, by decide +kernel, by decide +kernel⟩
set_option maxHeartbeats 0 in
theorem ok_check_number (T : Txt K mg P A B) : FnD P w K mg base 3 A.check_number B.check_number ["thing", "least", "most"] (phi_check_number A) := fn_d (body := d_check_number A) (N := ["thing", "least", "most"]) (k := 2) T.F_check_number sc_check_number fun cdv Ar outer s H E hr => by
  have nd := sc_check_number.nd
  exact (sds_one (sd_if (td_not (td_val (ed_call (ok_is_within T) (hr.mono (by decide)) (takes_of rfl rfl rfl rfl) (by rfl) T.m_is_within T.k_is_within T.b_is_within rfl (len_cons (len_cons (len_cons len_nil))) (ld_cons (ed_var (pv 0)) (ld_cons (ed_var (pv 1)) (ld_cons (ed_var (pv 2)) ld_nil)))))) (sds_one (sd_raise0 rfl (takes_of rfl rfl rfl rfl) (pmk0 T.xt_NoNumber T.xn_NoNumber (by rfl) T.m_NoNumber T.kk_NoNumber T.ex_NoNumber T.ty_NoNumber hr))) sds_nil))
theorem sc_stretched : FnScope ["program", "times", "readings", "reader", "read", "step", "part"] ["program", "times"] (defScope s_stretched) := ⟨rfl, rfl, rfl, by decide +kernel, rfl, by decide +kernel, by decide +kernel⟩
set_option maxHeartbeats 0 in
theorem ok_stretched (T : Txt K mg P A B) : FnD P w K mg base 8 A.stretched B.stretched ["program", "times"] (phi_stretched A) := fn_d (body := d_stretched A) (N := ["program", "times", "readings", "reader", "read", "step", "part"]) (k := 7) T.F_stretched sc_stretched fun cdv Ar outer s H E hr => by
  have nd := sc_stretched.nd
  exact (sds_cons (sd_expr (ed_call (ok_check_number T) (hr.mono (by decide)) (takes_of rfl rfl rfl rfl) (by rfl) T.m_check_number T.k_check_number T.b_check_number rfl (len_cons (len_cons (len_cons len_nil))) (ld_cons (ed_var (pv 1)) (ld_cons ed_int (ld_cons (ed_c (v := .int 1000000000000) (fun _ _ => .int _) (pe_gc (by rfl) T.c_MOST_TIMES)) ld_nil))))) (sds_cons (sd_asg (pg_name (i := 2) nd rfl (by first | exact Or.inl rfl | exact Or.inr rfl)) (ed_cel ld_nil)) (sds_cons (sd_for (passes_of rfl) rfl (id_seq (ed_fld T.n_Program_readings (ed_var (pv 0)))) (gd_tup (n := 3) rfl (gds_cons (gd_name (pg_name (i := 3) nd rfl (by first | exact Or.inl rfl | exact Or.inr rfl))) (gds_cons (gd_name (pg_name (i := 4) nd rfl (by first | exact Or.inl rfl | exact Or.inr rfl))) (gds_cons (gd_name (pg_name (i := 5) nd rfl (by first | exact Or.inl rfl | exact Or.inr rfl))) gds_nil)))) (sds_one (sd_expr (ed_lm PySem.F.slot_list_append PySem.F.type_list_append mt_append md_app (ed_var (pv 2)) (ld_cons (ed_tup (ld_cons (ed_var (pv 3)) (ld_cons (ed_var (pv 4)) (ld_cons (ed_ct call_tuple_of cd_tuple (by rfl) T.z_tuple bt_tuple (ld_cons (ed_lc rfl nd (id_seq (ed_var (pv 5))) (blkOk_by (own := [("part", 6)]) (by kernel_rfl)) (by  decide) (fun _ _ _ _ _ => (gd_name (pg_name (i := 6) nd rfl (by first | exact Or.inl rfl | exact Or.inr rfl)))) (fun _ _ _ _ _ => ts_nil) (fun _ _ _ _ _ => (ed_mulX (ed_var (pv 1)) (ed_var (pv 6))))) ld_nil)) ld_nil)))) ld_nil))))) (sds_one (sd_ret (ed_call (ok_program_of T) (hr.mono (by decide)) (takes_of rfl rfl rfl rfl) (by rfl) T.m_program_of T.k_program_of T.b_program_of rfl (len_cons (len_cons (len_cons len_nil))) (ld_cons (ed_fld T.n_Program_sides (ed_var (pv 0))) (ld_cons (ed_fld T.n_Program_tables (ed_var (pv 0))) (ld_cons (ed_var (pv 2)) ld_nil)))))))))
theorem sc_law : FnScope ["_law_script", "_law_pool_here", "_law_turn", "_law_parts_here", "_law_program_here", "_law_contrary", "_law_matrix_here", "_law_other", "_law_both", "_law_times", "_law_long", "_law_doings_here", "_law_more", "_law_reader", "_law_read", "_law_step_here", "_law_doing", "_law_item"] ["_law_script"] (defScope s_law) := ⟨rfl, rfl, rfl, by decide +kernel, rfl, by decide +kernel, by decide +kernel⟩
set_option maxHeartbeats 0 in
theorem ok_law (T : Txt K mg P A B) : FnD P w K mg base 10 A.law B.law ["_law_script"] (phi_law A) := fn_d (body := d_law A) (N := ["_law_script", "_law_pool_here", "_law_turn", "_law_parts_here", "_law_program_here", "_law_contrary", "_law_matrix_here", "_law_other", "_law_both", "_law_times", "_law_long", "_law_doings_here", "_law_more", "_law_reader", "_law_read", "_law_step_here", "_law_doing", "_law_item"]) (k := 9) T.F_law sc_law fun cdv Ar outer s H E hr => by
  have nd := sc_law.nd
  exact (sds_cons (sd_asg (pg_name (i := 1) nd rfl (by first | exact Or.inl rfl | exact Or.inr rfl)) (ed_call (ok__law_pool T) (hr.mono (by decide)) (takes_of rfl rfl rfl rfl) (by rfl) T.m__law_pool T.k__law_pool T.b__law_pool rfl (len_cons len_nil) (ld_cons (ed_var (pv 0)) ld_nil))) (sds_cons (sd_for (passes_of rfl) rfl (id_range1 (by rfl) T.z_range (ld_cons ed_int ld_nil)) (gd_name (pg_name (i := 2) nd rfl (by first | exact Or.inl rfl | exact Or.inr rfl))) (sds_cons (sd_asg (pg_name (i := 3) nd rfl (by first | exact Or.inl rfl | exact Or.inr rfl)) (ed_call (ok__law_parts T) (hr.mono (by decide)) (takes_of rfl rfl rfl rfl) (by rfl) T.m__law_parts T.k__law_parts T.b__law_parts rfl (len_cons len_nil) (ld_cons (ed_var (pv 1)) ld_nil))) (sds_cons (sd_asg (pg_name (i := 4) nd rfl (by first | exact Or.inl rfl | exact Or.inr rfl)) (ed_call (ok__law_program T) (hr.mono (by decide)) (takes_of rfl rfl rfl rfl) (by rfl) T.m__law_program T.k__law_program T.b__law_program rfl (len_cons len_nil) (ld_cons (ed_var (pv 3)) ld_nil))) (sds_cons (sd_par (i := 11) (j := 12) rfl nd rfl rfl (by decide) rfl rfl (ld_cons (ed_call (ok__law_doings T) (hr.mono (by decide)) (takes_of rfl rfl rfl rfl) (by rfl) T.m__law_doings T.k__law_doings T.b__law_doings rfl (len_cons (len_cons len_nil)) (ld_cons (ed_var (pv 1)) (ld_cons (ed_ix (ed_var (pv 3)) ed_int) ld_nil))) (ld_cons (ed_call (ok__law_doings T) (hr.mono (by decide)) (takes_of rfl rfl rfl rfl) (by rfl) T.m__law_doings T.k__law_doings T.b__law_doings rfl (len_cons (len_cons len_nil)) (ld_cons (ed_var (pv 1)) (ld_cons (ed_ix (ed_var (pv 3)) ed_int) ld_nil))) ld_nil)) (by rfl)) (sds_cons (sd_lc (i := 5) rfl nd rfl rfl (sw_true rfl rfl rfl (by kernel_rfl)) (id_seq (ed_rev (ed_var (pv 11)))) (blkOk_by (own := [("_law_doing", 16)]) (by kernel_rfl)) (by  decide) (fun _ _ _ _ _ => (gd_name (pg_name (i := 16) nd rfl (by first | exact Or.inl rfl | exact Or.inr rfl)))) (fun _ _ _ _ _ => ts_nil) (fun _ _ _ _ _ => (ed_tup (ld_cons (ed_ix (ed_var (pv 16)) ed_int) (ld_cons (ed_ix (ed_var (pv 16)) ed_int) (ld_cons (ed_sub ed_int (ed_ix (ed_var (pv 16)) ed_int)) ld_nil)))))) (sds_cons (sd_asg (pg_name (i := 6) nd rfl (by first | exact Or.inl rfl | exact Or.inr rfl)) (ed_call (ok__law_matrix T) (hr.mono (by decide)) (takes_of rfl rfl rfl rfl) (by rfl) T.m__law_matrix T.k__law_matrix T.b__law_matrix rfl (len_cons (len_cons len_nil)) (ld_cons (ed_ix (ed_var (pv 3)) ed_int) (ld_cons (ed_var (pv 11)) ld_nil)))) (sds_cons (sd_asg (pg_name (i := 7) nd rfl (by first | exact Or.inl rfl | exact Or.inr rfl)) (ed_call (ok_turned T) (hr.mono (by decide)) (takes_of rfl rfl rfl rfl) (by rfl) T.m_turned T.k_turned T.b_turned rfl (len_cons (len_cons len_nil)) (ld_cons (ed_var (pv 4)) (ld_cons (ed_var (pv 6)) ld_nil)))) (sds_cons (sd_if (td_not (td_val (ed_call (ok__law_is T) (hr.mono (by decide)) (takes_of rfl rfl rfl rfl) (by rfl) T.m__law_is T.k__law_is T.b__law_is rfl (len_cons (len_cons len_nil)) (ld_cons (ed_var (pv 7)) (ld_cons (ed_call (ok__law_turned T) (hr.mono (by decide)) (takes_of rfl rfl rfl rfl) (by rfl) T.m__law_turned T.k__law_turned T.b__law_turned rfl (len_cons (len_cons len_nil)) (ld_cons (ed_var (pv 3)) (ld_cons (ed_var (pv 6)) ld_nil))) ld_nil))))) (sds_one (sd_ret ed_bl)) sds_nil) (sds_cons (sd_if (td_cmp (op_neX (ok_Program___eq__ T) T.e_Program T.fn_Program___eq__ T.ne_Program T.kc_Program T.b_Program___eq__ (hr.mono (by decide))) (opd_neX rfl) (ed_call (ok_turned T) (hr.mono (by decide)) (takes_of rfl rfl rfl rfl) (by rfl) T.m_turned T.k_turned T.b_turned rfl (len_cons (len_cons len_nil)) (ld_cons (ed_var (pv 7)) (ld_cons (ed_call (ok__law_matrix T) (hr.mono (by decide)) (takes_of rfl rfl rfl rfl) (by rfl) T.m__law_matrix T.k__law_matrix T.b__law_matrix rfl (len_cons (len_cons len_nil)) (ld_cons (ed_ix (ed_var (pv 3)) ed_int) (ld_cons (ed_var (pv 5)) ld_nil))) ld_nil))) (ed_var (pv 4)) (nomark _)) (sds_one (sd_ret ed_bl)) sds_nil) (sds_cons (sd_asg (pg_name (i := 8) nd rfl (by first | exact Or.inl rfl | exact Or.inr rfl)) (ed_call (ok__law_matrix T) (hr.mono (by decide)) (takes_of rfl rfl rfl rfl) (by rfl) T.m__law_matrix T.k__law_matrix T.b__law_matrix rfl (len_cons (len_cons len_nil)) (ld_cons (ed_ix (ed_var (pv 3)) ed_int) (ld_cons (ed_addX (ed_var (pv 11)) (ed_var (pv 12))) ld_nil)))) (sds_cons (sd_if (td_cmp (op_neX (ok_Program___eq__ T) T.e_Program T.fn_Program___eq__ T.ne_Program T.kc_Program T.b_Program___eq__ (hr.mono (by decide))) (opd_neX rfl) (ed_call (ok_turned T) (hr.mono (by decide)) (takes_of rfl rfl rfl rfl) (by rfl) T.m_turned T.k_turned T.b_turned rfl (len_cons (len_cons len_nil)) (ld_cons (ed_var (pv 7)) (ld_cons (ed_call (ok__law_matrix T) (hr.mono (by decide)) (takes_of rfl rfl rfl rfl) (by rfl) T.m__law_matrix T.k__law_matrix T.b__law_matrix rfl (len_cons (len_cons len_nil)) (ld_cons (ed_ix (ed_var (pv 3)) ed_int) (ld_cons (ed_var (pv 12)) ld_nil))) ld_nil))) (ed_call (ok_turned T) (hr.mono (by decide)) (takes_of rfl rfl rfl rfl) (by rfl) T.m_turned T.k_turned T.b_turned rfl (len_cons (len_cons len_nil)) (ld_cons (ed_var (pv 4)) (ld_cons (ed_var (pv 8)) ld_nil))) (nomark _)) (sds_one (sd_ret ed_bl)) sds_nil) (sds_cons (sd_asg (pg_name (i := 9) nd rfl (by first | exact Or.inl rfl | exact Or.inr rfl)) (ed_call (ok__law_some T) (hr.mono (by decide)) (takes_of rfl rfl rfl rfl) (by rfl) T.m__law_some T.k__law_some T.b__law_some rfl (len_cons (len_cons len_nil)) (ld_cons (ed_var (pv 1)) (ld_cons (ed_lst (ld_cons ed_int (ld_cons ed_int (ld_cons ed_int (ld_cons ed_int (ld_cons (ed_pow ed_int ed_int) ld_nil)))))) ld_nil)))) (sds_cons (sd_asg (pg_name (i := 10) nd rfl (by first | exact Or.inl rfl | exact Or.inr rfl)) (ed_cel ld_nil)) (sds_cons (sd_for (passes_of rfl) rfl (id_seq (ed_ix (ed_var (pv 3)) ed_int)) (gd_tup (n := 3) rfl (gds_cons (gd_name (pg_name (i := 13) nd rfl (by first | exact Or.inl rfl | exact Or.inr rfl))) (gds_cons (gd_name (pg_name (i := 14) nd rfl (by first | exact Or.inl rfl | exact Or.inr rfl))) (gds_cons (gd_name (pg_name (i := 15) nd rfl (by first | exact Or.inl rfl | exact Or.inr rfl))) gds_nil)))) (sds_one (sd_expr (ed_lm PySem.F.slot_list_append PySem.F.type_list_append mt_append md_app (ed_var (pv 10)) (ld_cons (ed_tup (ld_cons (ed_var (pv 13)) (ld_cons (ed_var (pv 14)) (ld_cons (ed_ct call_tuple_of cd_tuple (by rfl) T.z_tuple bt_tuple (ld_cons (ed_lc rfl nd (id_seq (ed_var (pv 15))) (blkOk_by (own := [("_law_item", 17)]) (by kernel_rfl)) (by  decide) (fun _ _ _ _ _ => (gd_name (pg_name (i := 17) nd rfl (by first | exact Or.inl rfl | exact Or.inr rfl)))) (fun _ _ _ _ _ => ts_nil) (fun _ _ _ _ _ => (ed_mulX (ed_var (pv 9)) (ed_var (pv 17))))) ld_nil)) ld_nil)))) ld_nil))))) (sds_cons (sd_if (td_not (td_val (ed_call (ok__law_is T) (hr.mono (by decide)) (takes_of rfl rfl rfl rfl) (by rfl) T.m__law_is T.k__law_is T.b__law_is rfl (len_cons (len_cons len_nil)) (ld_cons (ed_call (ok_stretched T) (hr.mono (by decide)) (takes_of rfl rfl rfl rfl) (by rfl) T.m_stretched T.k_stretched T.b_stretched rfl (len_cons (len_cons len_nil)) (ld_cons (ed_var (pv 4)) (ld_cons (ed_var (pv 9)) ld_nil))) (ld_cons (ed_call (ok__law_sorted_parts T) (hr.mono (by decide)) (takes_of rfl rfl rfl rfl) (by rfl) T.m__law_sorted_parts T.k__law_sorted_parts T.b__law_sorted_parts rfl (len_cons (len_cons (len_cons len_nil))) (ld_cons (ed_ix (ed_var (pv 3)) ed_int) (ld_cons (ed_ix (ed_var (pv 3)) ed_int) (ld_cons (ed_var (pv 10)) ld_nil)))) ld_nil))))) (sds_one (sd_ret ed_bl)) sds_nil) (sds_cons (sd_if (td_cmp (op_neX (ok_Program___eq__ T) T.e_Program T.fn_Program___eq__ T.ne_Program T.kc_Program T.b_Program___eq__ (hr.mono (by decide))) (opd_neX rfl) (ed_call (ok_stretched T) (hr.mono (by decide)) (takes_of rfl rfl rfl rfl) (by rfl) T.m_stretched T.k_stretched T.b_stretched rfl (len_cons (len_cons len_nil)) (ld_cons (ed_var (pv 7)) (ld_cons (ed_var (pv 9)) ld_nil))) (ed_call (ok_turned T) (hr.mono (by decide)) (takes_of rfl rfl rfl rfl) (by rfl) T.m_turned T.k_turned T.b_turned rfl (len_cons (len_cons len_nil)) (ld_cons (ed_call (ok_stretched T) (hr.mono (by decide)) (takes_of rfl rfl rfl rfl) (by rfl) T.m_stretched T.k_stretched T.b_stretched rfl (len_cons (len_cons len_nil)) (ld_cons (ed_var (pv 4)) (ld_cons (ed_var (pv 9)) ld_nil))) (ld_cons (ed_var (pv 6)) ld_nil))) (nomark _)) (sds_one (sd_ret ed_bl)) sds_nil) (sds_cons (sd_if (td_w (wd_or (td_cmp (op_neX (ok_Program___eq__ T) T.e_Program T.fn_Program___eq__ T.ne_Program T.kc_Program T.b_Program___eq__ (hr.mono (by decide))) (opd_neX rfl) (ed_call (ok_turned T) (hr.mono (by decide)) (takes_of rfl rfl rfl rfl) (by rfl) T.m_turned T.k_turned T.b_turned rfl (len_cons (len_cons len_nil)) (ld_cons (ed_var (pv 4)) (ld_cons (ed_call (ok__law_matrix T) (hr.mono (by decide)) (takes_of rfl rfl rfl rfl) (by rfl) T.m__law_matrix T.k__law_matrix T.b__law_matrix rfl (len_cons (len_cons len_nil)) (ld_cons (ed_ix (ed_var (pv 3)) ed_int) (ld_cons (ed_lst ld_nil) ld_nil))) ld_nil))) (ed_var (pv 4)) (nomark _)) (wd_or1 (td_cmp (op_neX (ok_Program___eq__ T) T.e_Program T.fn_Program___eq__ T.ne_Program T.kc_Program T.b_Program___eq__ (hr.mono (by decide))) (opd_neX rfl) (ed_call (ok_stretched T) (hr.mono (by decide)) (takes_of rfl rfl rfl rfl) (by rfl) T.m_stretched T.k_stretched T.b_stretched rfl (len_cons (len_cons len_nil)) (ld_cons (ed_var (pv 4)) (ld_cons ed_int ld_nil))) (ed_var (pv 4)) (nomark _))))) (sds_one (sd_ret ed_bl)) sds_nil) (sds_one (sd_if (td_not (td_val (ed_call (ok__law_is T) (hr.mono (by decide)) (takes_of rfl rfl rfl rfl) (by rfl) T.m__law_is T.k__law_is T.b__law_is rfl (len_cons (len_cons len_nil)) (ld_cons (ed_var (pv 4)) (ld_cons (ed_var (pv 3)) ld_nil))))) (sds_one (sd_ret ed_bl)) sds_nil))))))))))))))))))) (sds_one (sd_ret ed_bl))))
end
set_option maxHeartbeats 0 in
theorem all_mk {P : Program} {w : World} {K : PySem.W.Frag} {h : Heap} {mg : Str → Option Value} {fa : Addr} (X : K.In h) (G : h.Ns mainGlobals mg) (hfa : mg "law" = some (.ref fa))
    {a__law_pool a__law_draw a__law_some a__law_step a__law_parts a_is_integer a_is_within a_is_triple a_are_integers a_are_within a_is_reading a_Program_keep a_Program___init__ a__law_program a__law_doings a__law_plain_matrix a__law_done a__law_matrix a_determinant a_dot a_program_of a_turned a__law_integer a__law_same a__law_is a__law_led a__law_sorted_parts a__law_turned a_Program___eq__ a_check_number a_stretched a_law a_Program a_BadProgram a_NoMatrix a_NoNumber a_BadProgram_init a_BadProgram_cc a_NoMatrix_init a_NoMatrix_cc a_NoNumber_init a_NoNumber_cc : Addr} {od__law_pool an__law_pool : Option Addr} {sl__law_pool : Array (Option Value)} {oc__law_pool kV__law_pool dc__law_pool pm__law_pool cd__law_pool ct__law_pool : Value} {od__law_draw an__law_draw : Option Addr} {sl__law_draw : Array (Option Value)} {oc__law_draw kV__law_draw dc__law_draw pm__law_draw cd__law_draw ct__law_draw : Value} {od__law_some an__law_some : Option Addr} {sl__law_some : Array (Option Value)} {oc__law_some kV__law_some dc__law_some pm__law_some cd__law_some ct__law_some : Value} {od__law_step an__law_step : Option Addr} {sl__law_step : Array (Option Value)} {oc__law_step kV__law_step dc__law_step pm__law_step cd__law_step ct__law_step : Value} {od__law_parts an__law_parts : Option Addr} {sl__law_parts : Array (Option Value)} {oc__law_parts kV__law_parts dc__law_parts pm__law_parts cd__law_parts ct__law_parts : Value} {od_is_integer an_is_integer : Option Addr} {sl_is_integer : Array (Option Value)} {oc_is_integer kV_is_integer dc_is_integer pm_is_integer cd_is_integer ct_is_integer : Value} {od_is_within an_is_within : Option Addr} {sl_is_within : Array (Option Value)} {oc_is_within kV_is_within dc_is_within pm_is_within cd_is_within ct_is_within : Value} {od_is_triple an_is_triple : Option Addr} {sl_is_triple : Array (Option Value)} {oc_is_triple kV_is_triple dc_is_triple pm_is_triple cd_is_triple ct_is_triple : Value} {od_are_integers an_are_integers : Option Addr} {sl_are_integers : Array (Option Value)} {oc_are_integers kV_are_integers dc_are_integers pm_are_integers cd_are_integers ct_are_integers : Value} {od_are_within an_are_within : Option Addr} {sl_are_within : Array (Option Value)} {oc_are_within kV_are_within dc_are_within pm_are_within cd_are_within ct_are_within : Value} {od_is_reading an_is_reading : Option Addr} {sl_is_reading : Array (Option Value)} {oc_is_reading kV_is_reading dc_is_reading pm_is_reading cd_is_reading ct_is_reading : Value} {od_Program_keep an_Program_keep : Option Addr} {sl_Program_keep : Array (Option Value)} {oc_Program_keep kV_Program_keep dc_Program_keep pm_Program_keep cd_Program_keep ct_Program_keep : Value} {od_Program___init__ an_Program___init__ : Option Addr} {sl_Program___init__ : Array (Option Value)} {oc_Program___init__ kV_Program___init__ dc_Program___init__ pm_Program___init__ cd_Program___init__ ct_Program___init__ : Value} {od__law_program an__law_program : Option Addr} {sl__law_program : Array (Option Value)} {oc__law_program kV__law_program dc__law_program pm__law_program cd__law_program ct__law_program : Value} {od__law_doings an__law_doings : Option Addr} {sl__law_doings : Array (Option Value)} {oc__law_doings kV__law_doings dc__law_doings pm__law_doings cd__law_doings ct__law_doings : Value} {od__law_plain_matrix an__law_plain_matrix : Option Addr} {sl__law_plain_matrix : Array (Option Value)} {oc__law_plain_matrix kV__law_plain_matrix dc__law_plain_matrix pm__law_plain_matrix cd__law_plain_matrix ct__law_plain_matrix : Value} {od__law_done an__law_done : Option Addr} {sl__law_done : Array (Option Value)} {oc__law_done kV__law_done dc__law_done pm__law_done cd__law_done ct__law_done : Value} {od__law_matrix an__law_matrix : Option Addr} {sl__law_matrix : Array (Option Value)} {oc__law_matrix kV__law_matrix dc__law_matrix pm__law_matrix cd__law_matrix ct__law_matrix : Value} {od_determinant an_determinant : Option Addr} {sl_determinant : Array (Option Value)} {oc_determinant kV_determinant dc_determinant pm_determinant cd_determinant ct_determinant : Value} {od_dot an_dot : Option Addr} {sl_dot : Array (Option Value)} {oc_dot kV_dot dc_dot pm_dot cd_dot ct_dot : Value} {od_program_of an_program_of : Option Addr} {sl_program_of : Array (Option Value)} {oc_program_of kV_program_of dc_program_of pm_program_of cd_program_of ct_program_of : Value} {od_turned an_turned : Option Addr} {sl_turned : Array (Option Value)} {oc_turned kV_turned dc_turned pm_turned cd_turned ct_turned : Value} {od__law_integer an__law_integer : Option Addr} {sl__law_integer : Array (Option Value)} {oc__law_integer kV__law_integer dc__law_integer pm__law_integer cd__law_integer ct__law_integer : Value} {od__law_same an__law_same : Option Addr} {sl__law_same : Array (Option Value)} {oc__law_same kV__law_same dc__law_same pm__law_same cd__law_same ct__law_same : Value} {od__law_is an__law_is : Option Addr} {sl__law_is : Array (Option Value)} {oc__law_is kV__law_is dc__law_is pm__law_is cd__law_is ct__law_is : Value} {od__law_led an__law_led : Option Addr} {sl__law_led : Array (Option Value)} {oc__law_led kV__law_led dc__law_led pm__law_led cd__law_led ct__law_led : Value} {od__law_sorted_parts an__law_sorted_parts : Option Addr} {sl__law_sorted_parts : Array (Option Value)} {oc__law_sorted_parts kV__law_sorted_parts dc__law_sorted_parts pm__law_sorted_parts cd__law_sorted_parts ct__law_sorted_parts : Value} {od__law_turned an__law_turned : Option Addr} {sl__law_turned : Array (Option Value)} {oc__law_turned kV__law_turned dc__law_turned pm__law_turned cd__law_turned ct__law_turned : Value} {od_Program___eq__ an_Program___eq__ : Option Addr} {sl_Program___eq__ : Array (Option Value)} {oc_Program___eq__ kV_Program___eq__ dc_Program___eq__ pm_Program___eq__ cd_Program___eq__ ct_Program___eq__ : Value} {od_check_number an_check_number : Option Addr} {sl_check_number : Array (Option Value)} {oc_check_number kV_check_number dc_check_number pm_check_number cd_check_number ct_check_number : Value} {od_stretched an_stretched : Option Addr} {sl_stretched : Array (Option Value)} {oc_stretched kV_stretched dc_stretched pm_stretched cd_stretched ct_stretched : Value} {od_law an_law : Option Addr} {sl_law : Array (Option Value)} {oc_law kV_law dc_law pm_law cd_law ct_law : Value} {tk_MOST_READINGS : Tok} {tk_MOST_SIDES : Tok} {tk_MOST_STEP : Tok} {tk_MOST_TABLES : Tok} {tk_MOST_TIMES : Tok} {mr_TurnError : Addr} {xnm_BadProgram xq_BadProgram : Str} {xN_BadProgram : Addr} {xbs_BadProgram : List Value} {xsn_BadProgram : List Str} {xsub_BadProgram : List Value} {xab_BadProgram : Bool} {xcol_BadProgram : Option Bool} {xdd_BadProgram : Option Addr} {x0_BadProgram x1_BadProgram x2_BadProgram x3_BadProgram x5_BadProgram : Option Value} {yoc_BadProgram ydoc_BadProgram ypm_BadProgram yct_BadProgram yccl_BadProgram : Value} {yod_BadProgram yan_BadProgram ycdd_BadProgram : Option Addr} {ycda_BadProgram : Addr} {yosl_BadProgram yccs_BadProgram : Array (Option Value)} {yvs_BadProgram : Array Value} {ycl_BadProgram : Value} {ycld_BadProgram : Option Addr} {ycsl_BadProgram : Array (Option Value)} {yfile_BadProgram : Str} {ytf_BadProgram : Tok} {xnm_NoMatrix xq_NoMatrix : Str} {xN_NoMatrix : Addr} {xbs_NoMatrix : List Value} {xsn_NoMatrix : List Str} {xsub_NoMatrix : List Value} {xab_NoMatrix : Bool} {xcol_NoMatrix : Option Bool} {xdd_NoMatrix : Option Addr} {x0_NoMatrix x1_NoMatrix x2_NoMatrix x3_NoMatrix x5_NoMatrix : Option Value} {yoc_NoMatrix ydoc_NoMatrix ypm_NoMatrix yct_NoMatrix yccl_NoMatrix : Value} {yod_NoMatrix yan_NoMatrix ycdd_NoMatrix : Option Addr} {ycda_NoMatrix : Addr} {yosl_NoMatrix yccs_NoMatrix : Array (Option Value)} {yvs_NoMatrix : Array Value} {ycl_NoMatrix : Value} {ycld_NoMatrix : Option Addr} {ycsl_NoMatrix : Array (Option Value)} {yfile_NoMatrix : Str} {ytf_NoMatrix : Tok} {xnm_NoNumber xq_NoNumber : Str} {xN_NoNumber : Addr} {xbs_NoNumber : List Value} {xsn_NoNumber : List Str} {xsub_NoNumber : List Value} {xab_NoNumber : Bool} {xcol_NoNumber : Option Bool} {xdd_NoNumber : Option Addr} {x0_NoNumber x1_NoNumber x2_NoNumber x3_NoNumber x5_NoNumber : Option Value} {yoc_NoNumber ydoc_NoNumber ypm_NoNumber yct_NoNumber yccl_NoNumber : Value} {yod_NoNumber yan_NoNumber ycdd_NoNumber : Option Addr} {ycda_NoNumber : Addr} {yosl_NoNumber yccs_NoNumber : Array (Option Value)} {yvs_NoNumber : Array Value} {ycl_NoNumber : Value} {ycld_NoNumber : Option Addr} {ycsl_NoNumber : Array (Option Value)} {yfile_NoNumber : Str} {ytf_NoNumber : Tok}
    (ha_Program : PySem.W.nsIn K mainGlobals "Program" = some (some (.ref a_Program)))
    (ha_BadProgram : PySem.W.nsIn K mainGlobals "BadProgram" = some (some (.ref a_BadProgram)))
    (ha_NoMatrix : PySem.W.nsIn K mainGlobals "NoMatrix" = some (some (.ref a_NoMatrix)))
    (ha_NoNumber : PySem.W.nsIn K mainGlobals "NoNumber" = some (some (.ref a_NoNumber)))
    (ha__law_pool : PySem.W.nsIn K mainGlobals "_law_pool" = some (some (.ref a__law_pool)))
    (hl__law_pool : K.lookup a__law_pool = some ⟨oc__law_pool, od__law_pool, .func (PySem.W.fnOf "_law_pool" "_law_pool" (defArgs s__law_pool) (defBody s__law_pool) (defScope s__law_pool) .none kV__law_pool dc__law_pool pm__law_pool an__law_pool cd__law_pool ct__law_pool), sl__law_pool⟩)
    (hc__law_pool : PySem.W.codeIn K cd__law_pool "_law_pool" = true)
    (hk__law_pool : PySem.W.keepIn K (.ref a__law_pool) = true)
    (ha__law_draw : PySem.W.nsIn K mainGlobals "_law_draw" = some (some (.ref a__law_draw)))
    (hl__law_draw : K.lookup a__law_draw = some ⟨oc__law_draw, od__law_draw, .func (PySem.W.fnOf "_law_draw" "_law_draw" (defArgs s__law_draw) (defBody s__law_draw) (defScope s__law_draw) .none kV__law_draw dc__law_draw pm__law_draw an__law_draw cd__law_draw ct__law_draw), sl__law_draw⟩)
    (hc__law_draw : PySem.W.codeIn K cd__law_draw "_law_draw" = true)
    (hk__law_draw : PySem.W.keepIn K (.ref a__law_draw) = true)
    (ha__law_some : PySem.W.nsIn K mainGlobals "_law_some" = some (some (.ref a__law_some)))
    (hl__law_some : K.lookup a__law_some = some ⟨oc__law_some, od__law_some, .func (PySem.W.fnOf "_law_some" "_law_some" (defArgs s__law_some) (defBody s__law_some) (defScope s__law_some) .none kV__law_some dc__law_some pm__law_some an__law_some cd__law_some ct__law_some), sl__law_some⟩)
    (hc__law_some : PySem.W.codeIn K cd__law_some "_law_some" = true)
    (hk__law_some : PySem.W.keepIn K (.ref a__law_some) = true)
    (ha__law_step : PySem.W.nsIn K mainGlobals "_law_step" = some (some (.ref a__law_step)))
    (hl__law_step : K.lookup a__law_step = some ⟨oc__law_step, od__law_step, .func (PySem.W.fnOf "_law_step" "_law_step" (defArgs s__law_step) (defBody s__law_step) (defScope s__law_step) .none kV__law_step dc__law_step pm__law_step an__law_step cd__law_step ct__law_step), sl__law_step⟩)
    (hc__law_step : PySem.W.codeIn K cd__law_step "_law_step" = true)
    (hk__law_step : PySem.W.keepIn K (.ref a__law_step) = true)
    (ha__law_parts : PySem.W.nsIn K mainGlobals "_law_parts" = some (some (.ref a__law_parts)))
    (hl__law_parts : K.lookup a__law_parts = some ⟨oc__law_parts, od__law_parts, .func (PySem.W.fnOf "_law_parts" "_law_parts" (defArgs s__law_parts) (defBody s__law_parts) (defScope s__law_parts) .none kV__law_parts dc__law_parts pm__law_parts an__law_parts cd__law_parts ct__law_parts), sl__law_parts⟩)
    (hc__law_parts : PySem.W.codeIn K cd__law_parts "_law_parts" = true)
    (hk__law_parts : PySem.W.keepIn K (.ref a__law_parts) = true)
    (ha_is_integer : PySem.W.nsIn K mainGlobals "is_integer" = some (some (.ref a_is_integer)))
    (hl_is_integer : K.lookup a_is_integer = some ⟨oc_is_integer, od_is_integer, .func (PySem.W.fnOf "is_integer" "is_integer" (defArgs s_is_integer) (defBody s_is_integer) (defScope s_is_integer) .none kV_is_integer dc_is_integer pm_is_integer an_is_integer cd_is_integer ct_is_integer), sl_is_integer⟩)
    (hc_is_integer : PySem.W.codeIn K cd_is_integer "is_integer" = true)
    (hk_is_integer : PySem.W.keepIn K (.ref a_is_integer) = true)
    (ha_is_within : PySem.W.nsIn K mainGlobals "is_within" = some (some (.ref a_is_within)))
    (hl_is_within : K.lookup a_is_within = some ⟨oc_is_within, od_is_within, .func (PySem.W.fnOf "is_within" "is_within" (defArgs s_is_within) (defBody s_is_within) (defScope s_is_within) .none kV_is_within dc_is_within pm_is_within an_is_within cd_is_within ct_is_within), sl_is_within⟩)
    (hc_is_within : PySem.W.codeIn K cd_is_within "is_within" = true)
    (hk_is_within : PySem.W.keepIn K (.ref a_is_within) = true)
    (ha_is_triple : PySem.W.nsIn K mainGlobals "is_triple" = some (some (.ref a_is_triple)))
    (hl_is_triple : K.lookup a_is_triple = some ⟨oc_is_triple, od_is_triple, .func (PySem.W.fnOf "is_triple" "is_triple" (defArgs s_is_triple) (defBody s_is_triple) (defScope s_is_triple) .none kV_is_triple dc_is_triple pm_is_triple an_is_triple cd_is_triple ct_is_triple), sl_is_triple⟩)
    (hc_is_triple : PySem.W.codeIn K cd_is_triple "is_triple" = true)
    (hk_is_triple : PySem.W.keepIn K (.ref a_is_triple) = true)
    (ha_are_integers : PySem.W.nsIn K mainGlobals "are_integers" = some (some (.ref a_are_integers)))
    (hl_are_integers : K.lookup a_are_integers = some ⟨oc_are_integers, od_are_integers, .func (PySem.W.fnOf "are_integers" "are_integers" (defArgs s_are_integers) (defBody s_are_integers) (defScope s_are_integers) .none kV_are_integers dc_are_integers pm_are_integers an_are_integers cd_are_integers ct_are_integers), sl_are_integers⟩)
    (hc_are_integers : PySem.W.codeIn K cd_are_integers "are_integers" = true)
    (hk_are_integers : PySem.W.keepIn K (.ref a_are_integers) = true)
    (ha_are_within : PySem.W.nsIn K mainGlobals "are_within" = some (some (.ref a_are_within)))
    (hl_are_within : K.lookup a_are_within = some ⟨oc_are_within, od_are_within, .func (PySem.W.fnOf "are_within" "are_within" (defArgs s_are_within) (defBody s_are_within) (defScope s_are_within) .none kV_are_within dc_are_within pm_are_within an_are_within cd_are_within ct_are_within), sl_are_within⟩)
    (hc_are_within : PySem.W.codeIn K cd_are_within "are_within" = true)
    (hk_are_within : PySem.W.keepIn K (.ref a_are_within) = true)
    (ha_is_reading : PySem.W.nsIn K mainGlobals "is_reading" = some (some (.ref a_is_reading)))
    (hl_is_reading : K.lookup a_is_reading = some ⟨oc_is_reading, od_is_reading, .func (PySem.W.fnOf "is_reading" "is_reading" (defArgs s_is_reading) (defBody s_is_reading) (defScope s_is_reading) .none kV_is_reading dc_is_reading pm_is_reading an_is_reading cd_is_reading ct_is_reading), sl_is_reading⟩)
    (hc_is_reading : PySem.W.codeIn K cd_is_reading "is_reading" = true)
    (hk_is_reading : PySem.W.keepIn K (.ref a_is_reading) = true)
    (ha_Program_keep : PySem.W.findIn K (.ref a_Program) "keep" = some (some (.ref a_Program_keep)))
    (hl_Program_keep : K.lookup a_Program_keep = some ⟨oc_Program_keep, od_Program_keep, .func (PySem.W.fnOf "keep" "Program.keep" (defArgs s_Program_keep) (defBody s_Program_keep) (defScope s_Program_keep) .none kV_Program_keep dc_Program_keep pm_Program_keep an_Program_keep cd_Program_keep ct_Program_keep), sl_Program_keep⟩)
    (hc_Program_keep : PySem.W.codeIn K cd_Program_keep "Program.keep" = true)
    (hk_Program_keep : PySem.W.keepIn K (.ref a_Program_keep) = true)
    (hf_Program_keep : PySem.W.isFn K (.ref a_Program_keep) = true)
    (ha_Program___init__ : PySem.W.findIn K (.ref a_Program) "__init__" = some (some (.ref a_Program___init__)))
    (hl_Program___init__ : K.lookup a_Program___init__ = some ⟨oc_Program___init__, od_Program___init__, .func (PySem.W.fnOf "__init__" "Program.__init__" (defArgs s_Program___init__) (defBody s_Program___init__) (defScope s_Program___init__) .none kV_Program___init__ dc_Program___init__ pm_Program___init__ an_Program___init__ cd_Program___init__ ct_Program___init__), sl_Program___init__⟩)
    (hc_Program___init__ : PySem.W.codeIn K cd_Program___init__ "Program.__init__" = true)
    (hk_Program___init__ : PySem.W.keepIn K (.ref a_Program___init__) = true)
    (hf_Program___init__ : PySem.W.isFn K (.ref a_Program___init__) = true)
    (ha__law_program : PySem.W.nsIn K mainGlobals "_law_program" = some (some (.ref a__law_program)))
    (hl__law_program : K.lookup a__law_program = some ⟨oc__law_program, od__law_program, .func (PySem.W.fnOf "_law_program" "_law_program" (defArgs s__law_program) (defBody s__law_program) (defScope s__law_program) .none kV__law_program dc__law_program pm__law_program an__law_program cd__law_program ct__law_program), sl__law_program⟩)
    (hc__law_program : PySem.W.codeIn K cd__law_program "_law_program" = true)
    (hk__law_program : PySem.W.keepIn K (.ref a__law_program) = true)
    (ha__law_doings : PySem.W.nsIn K mainGlobals "_law_doings" = some (some (.ref a__law_doings)))
    (hl__law_doings : K.lookup a__law_doings = some ⟨oc__law_doings, od__law_doings, .func (PySem.W.fnOf "_law_doings" "_law_doings" (defArgs s__law_doings) (defBody s__law_doings) (defScope s__law_doings) .none kV__law_doings dc__law_doings pm__law_doings an__law_doings cd__law_doings ct__law_doings), sl__law_doings⟩)
    (hc__law_doings : PySem.W.codeIn K cd__law_doings "_law_doings" = true)
    (hk__law_doings : PySem.W.keepIn K (.ref a__law_doings) = true)
    (ha__law_plain_matrix : PySem.W.nsIn K mainGlobals "_law_plain_matrix" = some (some (.ref a__law_plain_matrix)))
    (hl__law_plain_matrix : K.lookup a__law_plain_matrix = some ⟨oc__law_plain_matrix, od__law_plain_matrix, .func (PySem.W.fnOf "_law_plain_matrix" "_law_plain_matrix" (defArgs s__law_plain_matrix) (defBody s__law_plain_matrix) (defScope s__law_plain_matrix) .none kV__law_plain_matrix dc__law_plain_matrix pm__law_plain_matrix an__law_plain_matrix cd__law_plain_matrix ct__law_plain_matrix), sl__law_plain_matrix⟩)
    (hc__law_plain_matrix : PySem.W.codeIn K cd__law_plain_matrix "_law_plain_matrix" = true)
    (hk__law_plain_matrix : PySem.W.keepIn K (.ref a__law_plain_matrix) = true)
    (ha__law_done : PySem.W.nsIn K mainGlobals "_law_done" = some (some (.ref a__law_done)))
    (hl__law_done : K.lookup a__law_done = some ⟨oc__law_done, od__law_done, .func (PySem.W.fnOf "_law_done" "_law_done" (defArgs s__law_done) (defBody s__law_done) (defScope s__law_done) .none kV__law_done dc__law_done pm__law_done an__law_done cd__law_done ct__law_done), sl__law_done⟩)
    (hc__law_done : PySem.W.codeIn K cd__law_done "_law_done" = true)
    (hk__law_done : PySem.W.keepIn K (.ref a__law_done) = true)
    (ha__law_matrix : PySem.W.nsIn K mainGlobals "_law_matrix" = some (some (.ref a__law_matrix)))
    (hl__law_matrix : K.lookup a__law_matrix = some ⟨oc__law_matrix, od__law_matrix, .func (PySem.W.fnOf "_law_matrix" "_law_matrix" (defArgs s__law_matrix) (defBody s__law_matrix) (defScope s__law_matrix) .none kV__law_matrix dc__law_matrix pm__law_matrix an__law_matrix cd__law_matrix ct__law_matrix), sl__law_matrix⟩)
    (hc__law_matrix : PySem.W.codeIn K cd__law_matrix "_law_matrix" = true)
    (hk__law_matrix : PySem.W.keepIn K (.ref a__law_matrix) = true)
    (ha_determinant : PySem.W.nsIn K mainGlobals "determinant" = some (some (.ref a_determinant)))
    (hl_determinant : K.lookup a_determinant = some ⟨oc_determinant, od_determinant, .func (PySem.W.fnOf "determinant" "determinant" (defArgs s_determinant) (defBody s_determinant) (defScope s_determinant) .none kV_determinant dc_determinant pm_determinant an_determinant cd_determinant ct_determinant), sl_determinant⟩)
    (hc_determinant : PySem.W.codeIn K cd_determinant "determinant" = true)
    (hk_determinant : PySem.W.keepIn K (.ref a_determinant) = true)
    (ha_dot : PySem.W.nsIn K mainGlobals "dot" = some (some (.ref a_dot)))
    (hl_dot : K.lookup a_dot = some ⟨oc_dot, od_dot, .func (PySem.W.fnOf "dot" "dot" (defArgs s_dot) (defBody s_dot) (defScope s_dot) .none kV_dot dc_dot pm_dot an_dot cd_dot ct_dot), sl_dot⟩)
    (hc_dot : PySem.W.codeIn K cd_dot "dot" = true)
    (hk_dot : PySem.W.keepIn K (.ref a_dot) = true)
    (ha_program_of : PySem.W.nsIn K mainGlobals "program_of" = some (some (.ref a_program_of)))
    (hl_program_of : K.lookup a_program_of = some ⟨oc_program_of, od_program_of, .func (PySem.W.fnOf "program_of" "program_of" (defArgs s_program_of) (defBody s_program_of) (defScope s_program_of) .none kV_program_of dc_program_of pm_program_of an_program_of cd_program_of ct_program_of), sl_program_of⟩)
    (hc_program_of : PySem.W.codeIn K cd_program_of "program_of" = true)
    (hk_program_of : PySem.W.keepIn K (.ref a_program_of) = true)
    (ha_turned : PySem.W.nsIn K mainGlobals "turned" = some (some (.ref a_turned)))
    (hl_turned : K.lookup a_turned = some ⟨oc_turned, od_turned, .func (PySem.W.fnOf "turned" "turned" (defArgs s_turned) (defBody s_turned) (defScope s_turned) .none kV_turned dc_turned pm_turned an_turned cd_turned ct_turned), sl_turned⟩)
    (hc_turned : PySem.W.codeIn K cd_turned "turned" = true)
    (hk_turned : PySem.W.keepIn K (.ref a_turned) = true)
    (ha__law_integer : PySem.W.nsIn K mainGlobals "_law_integer" = some (some (.ref a__law_integer)))
    (hl__law_integer : K.lookup a__law_integer = some ⟨oc__law_integer, od__law_integer, .func (PySem.W.fnOf "_law_integer" "_law_integer" (defArgs s__law_integer) (defBody s__law_integer) (defScope s__law_integer) .none kV__law_integer dc__law_integer pm__law_integer an__law_integer cd__law_integer ct__law_integer), sl__law_integer⟩)
    (hc__law_integer : PySem.W.codeIn K cd__law_integer "_law_integer" = true)
    (hk__law_integer : PySem.W.keepIn K (.ref a__law_integer) = true)
    (ha__law_same : PySem.W.nsIn K mainGlobals "_law_same" = some (some (.ref a__law_same)))
    (hl__law_same : K.lookup a__law_same = some ⟨oc__law_same, od__law_same, .func (PySem.W.fnOf "_law_same" "_law_same" (defArgs s__law_same) (defBody s__law_same) (defScope s__law_same) .none kV__law_same dc__law_same pm__law_same an__law_same cd__law_same ct__law_same), sl__law_same⟩)
    (hc__law_same : PySem.W.codeIn K cd__law_same "_law_same" = true)
    (hk__law_same : PySem.W.keepIn K (.ref a__law_same) = true)
    (ha__law_is : PySem.W.nsIn K mainGlobals "_law_is" = some (some (.ref a__law_is)))
    (hl__law_is : K.lookup a__law_is = some ⟨oc__law_is, od__law_is, .func (PySem.W.fnOf "_law_is" "_law_is" (defArgs s__law_is) (defBody s__law_is) (defScope s__law_is) .none kV__law_is dc__law_is pm__law_is an__law_is cd__law_is ct__law_is), sl__law_is⟩)
    (hc__law_is : PySem.W.codeIn K cd__law_is "_law_is" = true)
    (hk__law_is : PySem.W.keepIn K (.ref a__law_is) = true)
    (ha__law_led : PySem.W.nsIn K mainGlobals "_law_led" = some (some (.ref a__law_led)))
    (hl__law_led : K.lookup a__law_led = some ⟨oc__law_led, od__law_led, .func (PySem.W.fnOf "_law_led" "_law_led" (defArgs s__law_led) (defBody s__law_led) (defScope s__law_led) .none kV__law_led dc__law_led pm__law_led an__law_led cd__law_led ct__law_led), sl__law_led⟩)
    (hc__law_led : PySem.W.codeIn K cd__law_led "_law_led" = true)
    (hk__law_led : PySem.W.keepIn K (.ref a__law_led) = true)
    (ha__law_sorted_parts : PySem.W.nsIn K mainGlobals "_law_sorted_parts" = some (some (.ref a__law_sorted_parts)))
    (hl__law_sorted_parts : K.lookup a__law_sorted_parts = some ⟨oc__law_sorted_parts, od__law_sorted_parts, .func (PySem.W.fnOf "_law_sorted_parts" "_law_sorted_parts" (defArgs s__law_sorted_parts) (defBody s__law_sorted_parts) (defScope s__law_sorted_parts) .none kV__law_sorted_parts dc__law_sorted_parts pm__law_sorted_parts an__law_sorted_parts cd__law_sorted_parts ct__law_sorted_parts), sl__law_sorted_parts⟩)
    (hc__law_sorted_parts : PySem.W.codeIn K cd__law_sorted_parts "_law_sorted_parts" = true)
    (hk__law_sorted_parts : PySem.W.keepIn K (.ref a__law_sorted_parts) = true)
    (ha__law_turned : PySem.W.nsIn K mainGlobals "_law_turned" = some (some (.ref a__law_turned)))
    (hl__law_turned : K.lookup a__law_turned = some ⟨oc__law_turned, od__law_turned, .func (PySem.W.fnOf "_law_turned" "_law_turned" (defArgs s__law_turned) (defBody s__law_turned) (defScope s__law_turned) .none kV__law_turned dc__law_turned pm__law_turned an__law_turned cd__law_turned ct__law_turned), sl__law_turned⟩)
    (hc__law_turned : PySem.W.codeIn K cd__law_turned "_law_turned" = true)
    (hk__law_turned : PySem.W.keepIn K (.ref a__law_turned) = true)
    (ha_Program___eq__ : PySem.W.findIn K (.ref a_Program) "__eq__" = some (some (.ref a_Program___eq__)))
    (hl_Program___eq__ : K.lookup a_Program___eq__ = some ⟨oc_Program___eq__, od_Program___eq__, .func (PySem.W.fnOf "__eq__" "Program.__eq__" (defArgs s_Program___eq__) (defBody s_Program___eq__) (defScope s_Program___eq__) .none kV_Program___eq__ dc_Program___eq__ pm_Program___eq__ an_Program___eq__ cd_Program___eq__ ct_Program___eq__), sl_Program___eq__⟩)
    (hc_Program___eq__ : PySem.W.codeIn K cd_Program___eq__ "Program.__eq__" = true)
    (hk_Program___eq__ : PySem.W.keepIn K (.ref a_Program___eq__) = true)
    (hf_Program___eq__ : PySem.W.isFn K (.ref a_Program___eq__) = true)
    (ha_check_number : PySem.W.nsIn K mainGlobals "check_number" = some (some (.ref a_check_number)))
    (hl_check_number : K.lookup a_check_number = some ⟨oc_check_number, od_check_number, .func (PySem.W.fnOf "check_number" "check_number" (defArgs s_check_number) (defBody s_check_number) (defScope s_check_number) .none kV_check_number dc_check_number pm_check_number an_check_number cd_check_number ct_check_number), sl_check_number⟩)
    (hc_check_number : PySem.W.codeIn K cd_check_number "check_number" = true)
    (hk_check_number : PySem.W.keepIn K (.ref a_check_number) = true)
    (ha_stretched : PySem.W.nsIn K mainGlobals "stretched" = some (some (.ref a_stretched)))
    (hl_stretched : K.lookup a_stretched = some ⟨oc_stretched, od_stretched, .func (PySem.W.fnOf "stretched" "stretched" (defArgs s_stretched) (defBody s_stretched) (defScope s_stretched) .none kV_stretched dc_stretched pm_stretched an_stretched cd_stretched ct_stretched), sl_stretched⟩)
    (hc_stretched : PySem.W.codeIn K cd_stretched "stretched" = true)
    (hk_stretched : PySem.W.keepIn K (.ref a_stretched) = true)
    (ha_law : PySem.W.nsIn K mainGlobals "law" = some (some (.ref a_law)))
    (hl_law : K.lookup a_law = some ⟨oc_law, od_law, .func (PySem.W.fnOf "law" "law" (defArgs s_law) (defBody s_law) (defScope s_law) .none kV_law dc_law pm_law an_law cd_law ct_law), sl_law⟩)
    (hc_law : PySem.W.codeIn K cd_law "law" = true)
    (hk_law : PySem.W.keepIn K (.ref a_law) = true)
    (hp1_Program : PySem.W.plainGet K a_Program Str.empty = true)
    (hp2_Program : PySem.W.hasDictIn K a_Program = true)
    (hp3_Program : PySem.W.plainOver K a_Program = true)
    (hp4_Program : PySem.W.findIn K (.ref a_Program) "__setattr__" = some (some (.builtin "object.__setattr__")))
    (hp5_Program : PySem.W.findIn K (.ref a_Program) "__class__" = some (some (.builtin "object.__class__")))
    (hp7_Program : (PySem.W.clsIn K a_Program).map (·.mro) = some [.ref a_Program, .type "object"])
    (hp8_Program : PySem.W.typeIn K (.ref a_Program) = some (.type "type"))
    (hne_Program : PySem.W.findIn K (.ref a_Program) "__ne__" = some (some (.builtin "object.__ne__")))
    (hm_Program : PySem.W.makesIn K a_Program = true)
    (hq_Program : PySem.W.keepIn K (.ref a_Program) = true)
    (hn_Program_readings : PySem.W.findIn K (.ref a_Program) "readings" = some none)
    (hn_Program_sides : PySem.W.findIn K (.ref a_Program) "sides" = some none)
    (hn_Program_tables : PySem.W.findIn K (.ref a_Program) "tables" = some none)
    (hcs : PySem.W.specialIn K (.builtin "object.__class__") "__get__" = some (some (.builtin "getset_descriptor.__get__")))
    (hct : PySem.W.takesIn K (.builtin "object.__class__") = some true)
    (hv_MOST_READINGS : PySem.W.nsIn K mainGlobals "MOST_READINGS" = some (some (.int 24 tk_MOST_READINGS)))
    (hv_MOST_SIDES : PySem.W.nsIn K mainGlobals "MOST_SIDES" = some (some (.int 4 tk_MOST_SIDES)))
    (hv_MOST_STEP : PySem.W.nsIn K mainGlobals "MOST_STEP" = some (some (.int 1000000000000 tk_MOST_STEP)))
    (hv_MOST_TABLES : PySem.W.nsIn K mainGlobals "MOST_TABLES" = some (some (.int 8 tk_MOST_TABLES)))
    (hv_MOST_TIMES : PySem.W.nsIn K mainGlobals "MOST_TIMES" = some (some (.int 1000000000000 tk_MOST_TIMES)))
    (hz_abs : PySem.W.nsIn K mainGlobals "abs" = some none)
    (hz_all : PySem.W.nsIn K mainGlobals "all" = some none)
    (hz_bool : PySem.W.nsIn K mainGlobals "bool" = some none)
    (hz_enumerate : PySem.W.nsIn K mainGlobals "enumerate" = some none)
    (hz_int : PySem.W.nsIn K mainGlobals "int" = some none)
    (hz_isinstance : PySem.W.nsIn K mainGlobals "isinstance" = some none)
    (hz_len : PySem.W.nsIn K mainGlobals "len" = some none)
    (hz_list : PySem.W.nsIn K mainGlobals "list" = some none)
    (hz_range : PySem.W.nsIn K mainGlobals "range" = some none)
    (hz_set : PySem.W.nsIn K mainGlobals "set" = some none)
    (hz_sorted : PySem.W.nsIn K mainGlobals "sorted" = some none)
    (hz_str : PySem.W.nsIn K mainGlobals "str" = some none)
    (hz_sum : PySem.W.nsIn K mainGlobals "sum" = some none)
    (hz_tuple : PySem.W.nsIn K mainGlobals "tuple" = some none)
    (hz_zip : PySem.W.nsIn K mainGlobals "zip" = some none)
    (xa_BadProgram : K.lookup a_BadProgram = some (excClassObj xnm_BadProgram xq_BadProgram a_BadProgram xN_BadProgram xbs_BadProgram [.ref mr_TurnError, .type "ValueError", .type "Exception", .type "BaseException", .type "object"] true xsn_BadProgram xsub_BadProgram xab_BadProgram xcol_BadProgram xdd_BadProgram x0_BadProgram x1_BadProgram x2_BadProgram x3_BadProgram x5_BadProgram "ValueError.__new__"))
    (xb_BadProgram : PySem.W.findIn K (.ref a_BadProgram) "__setattr__" = some (some (.builtin "object.__setattr__")))
    (xc_BadProgram : PySem.W.findIn K (.ref a_BadProgram) "__init__" = some (some (.ref a_BadProgram_init)))
    (xd_BadProgram : PySem.W.typeIn K (.ref a_BadProgram_init) = some (.type "function"))
    (xe_BadProgram : PySem.W.subIn K (.ref a_BadProgram) (.type "ValueError") = some true)
    (xf_BadProgram : K.lookup a_BadProgram_init = some ⟨yoc_BadProgram, yod_BadProgram, .func (PySem.W.ksFn "__init__" "BadProgram.__init__" (PySem.DLX.iA1 "part" ⟨6, 17, 6, 21⟩ ⟨6, 23, 6, 27⟩) [PySem.DLX.iE "no program" 0 ⟨7, 8, 7, 13⟩ ⟨7, 8, 7, 15⟩ ⟨7, 8, 7, 24⟩ ⟨7, 25, 7, 37⟩ ⟨7, 8, 7, 38⟩ ⟨7, 8, 7, 38⟩, PySem.DLX.iF "part" ⟨8, 8, 8, 12⟩ ⟨8, 8, 8, 17⟩ ⟨8, 20, 8, 24⟩ ⟨8, 8, 8, 24⟩] (PySem.DLX.iS1 "part") .none .none ydoc_BadProgram ypm_BadProgram yan_BadProgram (.ref ycda_BadProgram) yct_BadProgram a_BadProgram_cc), yosl_BadProgram⟩)
    (xg_BadProgram : K.lookup a_BadProgram_cc = some ⟨ycl_BadProgram, ycld_BadProgram, .cell (some (.ref a_BadProgram)), ycsl_BadProgram⟩)
    (xh_BadProgram : PySem.W.mroIn K a_BadProgram (.ref a_BadProgram) = some true)
    (xi_BadProgram : PySem.W.ks_superIn K a_BadProgram a_BadProgram "__init__" = some (some (.builtin "ValueError.__init__")))
    (xj_BadProgram : PySem.W.codeIn K (.ref ycda_BadProgram) "BadProgram.__init__" = true)
    (xk_BadProgram : K.lookup ycda_BadProgram = some ⟨yccl_BadProgram, ycdd_BadProgram, .fields yvs_BadProgram, yccs_BadProgram⟩)
    (xl_BadProgram : yvs_BadProgram[2]? = some (.str yfile_BadProgram ytf_BadProgram))
    (xm_BadProgram : ((P.main.file : Str) == yfile_BadProgram) = true)
    (xo_BadProgram : PySem.W.keepIn K (.ref a_BadProgram) = true)
    (xp_BadProgram : PySem.W.subIn K (.ref a_BadProgram) (.type "BaseException") = some true)
    (xq_BadProgram : PySem.W.typeIn K (.ref a_BadProgram) = some (.type "type"))
    (xr_BadProgram : PySem.W.findIn K (.ref a_BadProgram) "__getattribute__" = some (some (.builtin "BaseException.__getattribute__")))
    (xs_BadProgram : PySem.W.findIn K (.ref a_BadProgram) "__getattr__" = some none)
    (xt_BadProgram : PySem.W.hasDictIn K a_BadProgram = true)
    (xu_BadProgram : PySem.W.findIn K (.ref a_BadProgram) "__class__" = some (some (.builtin "object.__class__")))
    (xv_BadProgram : PySem.W.mroIn K a_BadProgram (.type "object") = some true)
    (xw_BadProgram : PySem.W.findIn K (.ref a_BadProgram) "part" = some none)
    (xa_NoMatrix : K.lookup a_NoMatrix = some (excClassObj xnm_NoMatrix xq_NoMatrix a_NoMatrix xN_NoMatrix xbs_NoMatrix [.ref mr_TurnError, .type "ValueError", .type "Exception", .type "BaseException", .type "object"] true xsn_NoMatrix xsub_NoMatrix xab_NoMatrix xcol_NoMatrix xdd_NoMatrix x0_NoMatrix x1_NoMatrix x2_NoMatrix x3_NoMatrix x5_NoMatrix "ValueError.__new__"))
    (xb_NoMatrix : PySem.W.findIn K (.ref a_NoMatrix) "__setattr__" = some (some (.builtin "object.__setattr__")))
    (xc_NoMatrix : PySem.W.findIn K (.ref a_NoMatrix) "__init__" = some (some (.ref a_NoMatrix_init)))
    (xd_NoMatrix : PySem.W.typeIn K (.ref a_NoMatrix_init) = some (.type "function"))
    (xe_NoMatrix : PySem.W.subIn K (.ref a_NoMatrix) (.type "ValueError") = some true)
    (xf_NoMatrix : K.lookup a_NoMatrix_init = some ⟨yoc_NoMatrix, yod_NoMatrix, .func (PySem.W.ksFn "__init__" "NoMatrix.__init__" (PySem.DLX.iA0 ⟨11, 17, 11, 21⟩) [PySem.DLX.iE "no matrix as told" 0 ⟨12, 8, 12, 13⟩ ⟨12, 8, 12, 15⟩ ⟨12, 8, 12, 24⟩ ⟨12, 25, 12, 44⟩ ⟨12, 8, 12, 45⟩ ⟨12, 8, 12, 45⟩] PySem.DLX.iS0 .none .none ydoc_NoMatrix ypm_NoMatrix yan_NoMatrix (.ref ycda_NoMatrix) yct_NoMatrix a_NoMatrix_cc), yosl_NoMatrix⟩)
    (xg_NoMatrix : K.lookup a_NoMatrix_cc = some ⟨ycl_NoMatrix, ycld_NoMatrix, .cell (some (.ref a_NoMatrix)), ycsl_NoMatrix⟩)
    (xh_NoMatrix : PySem.W.mroIn K a_NoMatrix (.ref a_NoMatrix) = some true)
    (xi_NoMatrix : PySem.W.ks_superIn K a_NoMatrix a_NoMatrix "__init__" = some (some (.builtin "ValueError.__init__")))
    (xj_NoMatrix : PySem.W.codeIn K (.ref ycda_NoMatrix) "NoMatrix.__init__" = true)
    (xk_NoMatrix : K.lookup ycda_NoMatrix = some ⟨yccl_NoMatrix, ycdd_NoMatrix, .fields yvs_NoMatrix, yccs_NoMatrix⟩)
    (xl_NoMatrix : yvs_NoMatrix[2]? = some (.str yfile_NoMatrix ytf_NoMatrix))
    (xm_NoMatrix : ((P.main.file : Str) == yfile_NoMatrix) = true)
    (xo_NoMatrix : PySem.W.keepIn K (.ref a_NoMatrix) = true)
    (xp_NoMatrix : PySem.W.subIn K (.ref a_NoMatrix) (.type "BaseException") = some true)
    (xq_NoMatrix : PySem.W.typeIn K (.ref a_NoMatrix) = some (.type "type"))
    (xr_NoMatrix : PySem.W.findIn K (.ref a_NoMatrix) "__getattribute__" = some (some (.builtin "BaseException.__getattribute__")))
    (xs_NoMatrix : PySem.W.findIn K (.ref a_NoMatrix) "__getattr__" = some none)
    (xt_NoMatrix : PySem.W.hasDictIn K a_NoMatrix = true)
    (xu_NoMatrix : PySem.W.findIn K (.ref a_NoMatrix) "__class__" = some (some (.builtin "object.__class__")))
    (xv_NoMatrix : PySem.W.mroIn K a_NoMatrix (.type "object") = some true)
    (xa_NoNumber : K.lookup a_NoNumber = some (excClassObj xnm_NoNumber xq_NoNumber a_NoNumber xN_NoNumber xbs_NoNumber [.ref mr_TurnError, .type "ValueError", .type "Exception", .type "BaseException", .type "object"] true xsn_NoNumber xsub_NoNumber xab_NoNumber xcol_NoNumber xdd_NoNumber x0_NoNumber x1_NoNumber x2_NoNumber x3_NoNumber x5_NoNumber "ValueError.__new__"))
    (xb_NoNumber : PySem.W.findIn K (.ref a_NoNumber) "__setattr__" = some (some (.builtin "object.__setattr__")))
    (xc_NoNumber : PySem.W.findIn K (.ref a_NoNumber) "__init__" = some (some (.ref a_NoNumber_init)))
    (xd_NoNumber : PySem.W.typeIn K (.ref a_NoNumber_init) = some (.type "function"))
    (xe_NoNumber : PySem.W.subIn K (.ref a_NoNumber) (.type "ValueError") = some true)
    (xf_NoNumber : K.lookup a_NoNumber_init = some ⟨yoc_NoNumber, yod_NoNumber, .func (PySem.W.ksFn "__init__" "NoNumber.__init__" (PySem.DLX.iA0 ⟨15, 17, 15, 21⟩) [PySem.DLX.iE "no number as told" 0 ⟨16, 8, 16, 13⟩ ⟨16, 8, 16, 15⟩ ⟨16, 8, 16, 24⟩ ⟨16, 25, 16, 44⟩ ⟨16, 8, 16, 45⟩ ⟨16, 8, 16, 45⟩] PySem.DLX.iS0 .none .none ydoc_NoNumber ypm_NoNumber yan_NoNumber (.ref ycda_NoNumber) yct_NoNumber a_NoNumber_cc), yosl_NoNumber⟩)
    (xg_NoNumber : K.lookup a_NoNumber_cc = some ⟨ycl_NoNumber, ycld_NoNumber, .cell (some (.ref a_NoNumber)), ycsl_NoNumber⟩)
    (xh_NoNumber : PySem.W.mroIn K a_NoNumber (.ref a_NoNumber) = some true)
    (xi_NoNumber : PySem.W.ks_superIn K a_NoNumber a_NoNumber "__init__" = some (some (.builtin "ValueError.__init__")))
    (xj_NoNumber : PySem.W.codeIn K (.ref ycda_NoNumber) "NoNumber.__init__" = true)
    (xk_NoNumber : K.lookup ycda_NoNumber = some ⟨yccl_NoNumber, ycdd_NoNumber, .fields yvs_NoNumber, yccs_NoNumber⟩)
    (xl_NoNumber : yvs_NoNumber[2]? = some (.str yfile_NoNumber ytf_NoNumber))
    (xm_NoNumber : ((P.main.file : Str) == yfile_NoNumber) = true)
    (xo_NoNumber : PySem.W.keepIn K (.ref a_NoNumber) = true)
    (xp_NoNumber : PySem.W.subIn K (.ref a_NoNumber) (.type "BaseException") = some true)
    (xq_NoNumber : PySem.W.typeIn K (.ref a_NoNumber) = some (.type "type"))
    (xr_NoNumber : PySem.W.findIn K (.ref a_NoNumber) "__getattribute__" = some (some (.builtin "BaseException.__getattribute__")))
    (xs_NoNumber : PySem.W.findIn K (.ref a_NoNumber) "__getattr__" = some none)
    (xt_NoNumber : PySem.W.hasDictIn K a_NoNumber = true)
    (xu_NoNumber : PySem.W.findIn K (.ref a_NoNumber) "__class__" = some (some (.builtin "object.__class__")))
    (xv_NoNumber : PySem.W.mroIn K a_NoNumber (.type "object") = some true)
    (xsup : PySem.W.nsIn K mainGlobals "super" = some none)
    (xtp : PySem.W.nsIn K cStatics "thirdparty.any" = some none)
    (xtop : (P.main.scope.names.lookup ("super" : Str)).isSome = false)

    : ∃ fd : FuncData, (∀ (s : Shared) (v : Value), BindsTo s fd ⟨[v], []⟩ [("_law_script", v)]) ∧ ∀ base : Heap, K.In base → base.Ns mainGlobals mg → FnD P w K mg base 10 fa fd ["_law_script"] (phi_law ({ _law_pool := a__law_pool, _law_draw := a__law_draw, _law_some := a__law_some, _law_step := a__law_step, _law_parts := a__law_parts, is_integer := a_is_integer, is_within := a_is_within, is_triple := a_is_triple, are_integers := a_are_integers, are_within := a_are_within, is_reading := a_is_reading, Program_keep := a_Program_keep, Program___init__ := a_Program___init__, _law_program := a__law_program, _law_doings := a__law_doings, _law_plain_matrix := a__law_plain_matrix, _law_done := a__law_done, _law_matrix := a__law_matrix, determinant := a_determinant, dot := a_dot, program_of := a_program_of, turned := a_turned, _law_integer := a__law_integer, _law_same := a__law_same, _law_is := a__law_is, _law_led := a__law_led, _law_sorted_parts := a__law_sorted_parts, _law_turned := a__law_turned, Program___eq__ := a_Program___eq__, check_number := a_check_number, stretched := a_stretched, law := a_law, Program := a_Program, BadProgram := a_BadProgram, NoMatrix := a_NoMatrix, NoNumber := a_NoNumber, BadProgram_init := a_BadProgram_init, BadProgram_cc := a_BadProgram_cc, NoMatrix_init := a_NoMatrix_init, NoMatrix_cc := a_NoMatrix_cc, NoNumber_init := a_NoNumber_init, NoNumber_cc := a_NoNumber_cc } : Ad)) := by
  have e := hfa.symm.trans (PySem.W.mg_of X G ha_law)
  cases e
  have F__law_pool := fun_mk (st := s__law_pool) hl__law_pool hc__law_pool hk__law_pool
  have b__law_pool := F__law_pool.binds (ps := ["_law_script"]) fun _ _ _ _ _ _ us hl => match us, hl with | [_], _ => rfl
  have F__law_draw := fun_mk (st := s__law_draw) hl__law_draw hc__law_draw hk__law_draw
  have b__law_draw := F__law_draw.binds (ps := ["_law_pool_here", "_law_many"]) fun _ _ _ _ _ _ us hl => match us, hl with | [_, _], _ => rfl
  have F__law_some := fun_mk (st := s__law_some) hl__law_some hc__law_some hk__law_some
  have b__law_some := F__law_some.binds (ps := ["_law_pool_here", "_law_things"]) fun _ _ _ _ _ _ us hl => match us, hl with | [_, _], _ => rfl
  have F__law_step := fun_mk (st := s__law_step) hl__law_step hc__law_step hk__law_step
  have b__law_step := F__law_step.binds (ps := ["_law_pool_here", "_law_sides"]) fun _ _ _ _ _ _ us hl => match us, hl with | [_, _], _ => rfl
  have F__law_parts := fun_mk (st := s__law_parts) hl__law_parts hc__law_parts hk__law_parts
  have b__law_parts := F__law_parts.binds (ps := ["_law_pool_here"]) fun _ _ _ _ _ _ us hl => match us, hl with | [_], _ => rfl
  have F_is_integer := fun_mk (st := s_is_integer) hl_is_integer hc_is_integer hk_is_integer
  have b_is_integer := F_is_integer.binds (ps := ["thing"]) fun _ _ _ _ _ _ us hl => match us, hl with | [_], _ => rfl
  have F_is_within := fun_mk (st := s_is_within) hl_is_within hc_is_within hk_is_within
  have b_is_within := F_is_within.binds (ps := ["thing", "least", "most"]) fun _ _ _ _ _ _ us hl => match us, hl with | [_, _, _], _ => rfl
  have F_is_triple := fun_mk (st := s_is_triple) hl_is_triple hc_is_triple hk_is_triple
  have b_is_triple := F_is_triple.binds (ps := ["thing"]) fun _ _ _ _ _ _ us hl => match us, hl with | [_], _ => rfl
  have F_are_integers := fun_mk (st := s_are_integers) hl_are_integers hc_are_integers hk_are_integers
  have b_are_integers := F_are_integers.binds (ps := ["thing", "many"]) fun _ _ _ _ _ _ us hl => match us, hl with | [_, _], _ => rfl
  have F_are_within := fun_mk (st := s_are_within) hl_are_within hc_are_within hk_are_within
  have b_are_within := F_are_within.binds (ps := ["thing", "many", "least", "most"]) fun _ _ _ _ _ _ us hl => match us, hl with | [_, _, _, _], _ => rfl
  have F_is_reading := fun_mk (st := s_is_reading) hl_is_reading hc_is_reading hk_is_reading
  have b_is_reading := F_is_reading.binds (ps := ["sides", "tables", "thing"]) fun _ _ _ _ _ _ us hl => match us, hl with | [_, _, _], _ => rfl
  have F_Program_keep := fun_mk (st := s_Program_keep) hl_Program_keep hc_Program_keep hk_Program_keep
  have b_Program_keep := F_Program_keep.binds (ps := ["self", "sides", "tables", "readings"]) fun _ _ _ _ _ _ us hl => match us, hl with | [_, _, _, _], _ => rfl
  have F_Program___init__ := fun_mk (st := s_Program___init__) hl_Program___init__ hc_Program___init__ hk_Program___init__
  have b_Program___init__ := F_Program___init__.binds (ps := ["self", "sides", "tables", "readings"]) fun _ _ _ _ _ _ us hl => match us, hl with | [_, _, _, _], _ => rfl
  have F__law_program := fun_mk (st := s__law_program) hl__law_program hc__law_program hk__law_program
  have b__law_program := F__law_program.binds (ps := ["_law_parts_here"]) fun _ _ _ _ _ _ us hl => match us, hl with | [_], _ => rfl
  have F__law_doings := fun_mk (st := s__law_doings) hl__law_doings hc__law_doings hk__law_doings
  have b__law_doings := F__law_doings.binds (ps := ["_law_pool_here", "_law_sides"]) fun _ _ _ _ _ _ us hl => match us, hl with | [_, _], _ => rfl
  have F__law_plain_matrix := fun_mk (st := s__law_plain_matrix) hl__law_plain_matrix hc__law_plain_matrix hk__law_plain_matrix
  have b__law_plain_matrix := F__law_plain_matrix.binds (ps := ["_law_sides"]) fun _ _ _ _ _ _ us hl => match us, hl with | [_], _ => rfl
  have F__law_done := fun_mk (st := s__law_done) hl__law_done hc__law_done hk__law_done
  have b__law_done := F__law_done.binds (ps := ["_law_rows", "_law_doing"]) fun _ _ _ _ _ _ us hl => match us, hl with | [_, _], _ => rfl
  have F__law_matrix := fun_mk (st := s__law_matrix) hl__law_matrix hc__law_matrix hk__law_matrix
  have b__law_matrix := F__law_matrix.binds (ps := ["_law_sides", "_law_doings_here"]) fun _ _ _ _ _ _ us hl => match us, hl with | [_, _], _ => rfl
  have F_determinant := fun_mk (st := s_determinant) hl_determinant hc_determinant hk_determinant
  have b_determinant := F_determinant.binds (ps := ["matrix"]) fun _ _ _ _ _ _ us hl => match us, hl with | [_], _ => rfl
  have F_dot := fun_mk (st := s_dot) hl_dot hc_dot hk_dot
  have b_dot := F_dot.binds (ps := ["row", "step"]) fun _ _ _ _ _ _ us hl => match us, hl with | [_, _], _ => rfl
  have F_program_of := fun_mk (st := s_program_of) hl_program_of hc_program_of hk_program_of
  have b_program_of := F_program_of.binds (ps := ["sides", "tables", "readings"]) fun _ _ _ _ _ _ us hl => match us, hl with | [_, _, _], _ => rfl
  have F_turned := fun_mk (st := s_turned) hl_turned hc_turned hk_turned
  have b_turned := F_turned.binds (ps := ["program", "matrix"]) fun _ _ _ _ _ _ us hl => match us, hl with | [_, _], _ => rfl
  have F__law_integer := fun_mk (st := s__law_integer) hl__law_integer hc__law_integer hk__law_integer
  have b__law_integer := F__law_integer.binds (ps := ["_law_thing"]) fun _ _ _ _ _ _ us hl => match us, hl with | [_], _ => rfl
  have F__law_same := fun_mk (st := s__law_same) hl__law_same hc__law_same hk__law_same
  have b__law_same := F__law_same.binds (ps := ["_law_actual", "_law_expected"]) fun _ _ _ _ _ _ us hl => match us, hl with | [_, _], _ => rfl
  have F__law_is := fun_mk (st := s__law_is) hl__law_is hc__law_is hk__law_is
  have b__law_is := F__law_is.binds (ps := ["_law_program_here", "_law_parts_here"]) fun _ _ _ _ _ _ us hl => match us, hl with | [_, _], _ => rfl
  have F__law_led := fun_mk (st := s__law_led) hl__law_led hc__law_led hk__law_led
  have b__law_led := F__law_led.binds (ps := ["_law_matrix_here", "_law_step_here"]) fun _ _ _ _ _ _ us hl => match us, hl with | [_, _], _ => rfl
  have F__law_sorted_parts := fun_mk (st := s__law_sorted_parts) hl__law_sorted_parts hc__law_sorted_parts hk__law_sorted_parts
  have b__law_sorted_parts := F__law_sorted_parts.binds (ps := ["_law_sides", "_law_tables", "_law_readings"]) fun _ _ _ _ _ _ us hl => match us, hl with | [_, _, _], _ => rfl
  have F__law_turned := fun_mk (st := s__law_turned) hl__law_turned hc__law_turned hk__law_turned
  have b__law_turned := F__law_turned.binds (ps := ["_law_parts_here", "_law_matrix_here"]) fun _ _ _ _ _ _ us hl => match us, hl with | [_, _], _ => rfl
  have F_Program___eq__ := fun_mk (st := s_Program___eq__) hl_Program___eq__ hc_Program___eq__ hk_Program___eq__
  have b_Program___eq__ := F_Program___eq__.binds (ps := ["self", "other"]) fun _ _ _ _ _ _ us hl => match us, hl with | [_, _], _ => rfl
  have F_check_number := fun_mk (st := s_check_number) hl_check_number hc_check_number hk_check_number
  have b_check_number := F_check_number.binds (ps := ["thing", "least", "most"]) fun _ _ _ _ _ _ us hl => match us, hl with | [_, _, _], _ => rfl
  have F_stretched := fun_mk (st := s_stretched) hl_stretched hc_stretched hk_stretched
  have b_stretched := F_stretched.binds (ps := ["program", "times"]) fun _ _ _ _ _ _ us hl => match us, hl with | [_, _], _ => rfl
  have F_law := fun_mk (st := s_law) hl_law hc_law hk_law
  have b_law := F_law.binds (ps := ["_law_script"]) fun _ _ _ _ _ _ us hl => match us, hl with | [_], _ => rfl
  have kc_Program : KC K a_Program := ⟨⟨hp1_Program, hp2_Program, hp3_Program, hp4_Program⟩, hp5_Program, hcs, hct, (by obtain ⟨cd, h1, h2⟩ := Option.map_eq_some_iff.mp hp7_Program; exact ⟨cd, h1, h2⟩), hp8_Program⟩
  have T : Txt K mg P ({ _law_pool := a__law_pool, _law_draw := a__law_draw, _law_some := a__law_some, _law_step := a__law_step, _law_parts := a__law_parts, is_integer := a_is_integer, is_within := a_is_within, is_triple := a_is_triple, are_integers := a_are_integers, are_within := a_are_within, is_reading := a_is_reading, Program_keep := a_Program_keep, Program___init__ := a_Program___init__, _law_program := a__law_program, _law_doings := a__law_doings, _law_plain_matrix := a__law_plain_matrix, _law_done := a__law_done, _law_matrix := a__law_matrix, determinant := a_determinant, dot := a_dot, program_of := a_program_of, turned := a_turned, _law_integer := a__law_integer, _law_same := a__law_same, _law_is := a__law_is, _law_led := a__law_led, _law_sorted_parts := a__law_sorted_parts, _law_turned := a__law_turned, Program___eq__ := a_Program___eq__, check_number := a_check_number, stretched := a_stretched, law := fa, Program := a_Program, BadProgram := a_BadProgram, NoMatrix := a_NoMatrix, NoNumber := a_NoNumber, BadProgram_init := a_BadProgram_init, BadProgram_cc := a_BadProgram_cc, NoMatrix_init := a_NoMatrix_init, NoMatrix_cc := a_NoMatrix_cc, NoNumber_init := a_NoNumber_init, NoNumber_cc := a_NoNumber_cc } : Ad) ({ _law_pool := (PySem.W.fnOf "_law_pool" "_law_pool" (defArgs s__law_pool) (defBody s__law_pool) (defScope s__law_pool) .none kV__law_pool dc__law_pool pm__law_pool an__law_pool cd__law_pool ct__law_pool), _law_draw := (PySem.W.fnOf "_law_draw" "_law_draw" (defArgs s__law_draw) (defBody s__law_draw) (defScope s__law_draw) .none kV__law_draw dc__law_draw pm__law_draw an__law_draw cd__law_draw ct__law_draw), _law_some := (PySem.W.fnOf "_law_some" "_law_some" (defArgs s__law_some) (defBody s__law_some) (defScope s__law_some) .none kV__law_some dc__law_some pm__law_some an__law_some cd__law_some ct__law_some), _law_step := (PySem.W.fnOf "_law_step" "_law_step" (defArgs s__law_step) (defBody s__law_step) (defScope s__law_step) .none kV__law_step dc__law_step pm__law_step an__law_step cd__law_step ct__law_step), _law_parts := (PySem.W.fnOf "_law_parts" "_law_parts" (defArgs s__law_parts) (defBody s__law_parts) (defScope s__law_parts) .none kV__law_parts dc__law_parts pm__law_parts an__law_parts cd__law_parts ct__law_parts), is_integer := (PySem.W.fnOf "is_integer" "is_integer" (defArgs s_is_integer) (defBody s_is_integer) (defScope s_is_integer) .none kV_is_integer dc_is_integer pm_is_integer an_is_integer cd_is_integer ct_is_integer), is_within := (PySem.W.fnOf "is_within" "is_within" (defArgs s_is_within) (defBody s_is_within) (defScope s_is_within) .none kV_is_within dc_is_within pm_is_within an_is_within cd_is_within ct_is_within), is_triple := (PySem.W.fnOf "is_triple" "is_triple" (defArgs s_is_triple) (defBody s_is_triple) (defScope s_is_triple) .none kV_is_triple dc_is_triple pm_is_triple an_is_triple cd_is_triple ct_is_triple), are_integers := (PySem.W.fnOf "are_integers" "are_integers" (defArgs s_are_integers) (defBody s_are_integers) (defScope s_are_integers) .none kV_are_integers dc_are_integers pm_are_integers an_are_integers cd_are_integers ct_are_integers), are_within := (PySem.W.fnOf "are_within" "are_within" (defArgs s_are_within) (defBody s_are_within) (defScope s_are_within) .none kV_are_within dc_are_within pm_are_within an_are_within cd_are_within ct_are_within), is_reading := (PySem.W.fnOf "is_reading" "is_reading" (defArgs s_is_reading) (defBody s_is_reading) (defScope s_is_reading) .none kV_is_reading dc_is_reading pm_is_reading an_is_reading cd_is_reading ct_is_reading), Program_keep := (PySem.W.fnOf "keep" "Program.keep" (defArgs s_Program_keep) (defBody s_Program_keep) (defScope s_Program_keep) .none kV_Program_keep dc_Program_keep pm_Program_keep an_Program_keep cd_Program_keep ct_Program_keep), Program___init__ := (PySem.W.fnOf "__init__" "Program.__init__" (defArgs s_Program___init__) (defBody s_Program___init__) (defScope s_Program___init__) .none kV_Program___init__ dc_Program___init__ pm_Program___init__ an_Program___init__ cd_Program___init__ ct_Program___init__), _law_program := (PySem.W.fnOf "_law_program" "_law_program" (defArgs s__law_program) (defBody s__law_program) (defScope s__law_program) .none kV__law_program dc__law_program pm__law_program an__law_program cd__law_program ct__law_program), _law_doings := (PySem.W.fnOf "_law_doings" "_law_doings" (defArgs s__law_doings) (defBody s__law_doings) (defScope s__law_doings) .none kV__law_doings dc__law_doings pm__law_doings an__law_doings cd__law_doings ct__law_doings), _law_plain_matrix := (PySem.W.fnOf "_law_plain_matrix" "_law_plain_matrix" (defArgs s__law_plain_matrix) (defBody s__law_plain_matrix) (defScope s__law_plain_matrix) .none kV__law_plain_matrix dc__law_plain_matrix pm__law_plain_matrix an__law_plain_matrix cd__law_plain_matrix ct__law_plain_matrix), _law_done := (PySem.W.fnOf "_law_done" "_law_done" (defArgs s__law_done) (defBody s__law_done) (defScope s__law_done) .none kV__law_done dc__law_done pm__law_done an__law_done cd__law_done ct__law_done), _law_matrix := (PySem.W.fnOf "_law_matrix" "_law_matrix" (defArgs s__law_matrix) (defBody s__law_matrix) (defScope s__law_matrix) .none kV__law_matrix dc__law_matrix pm__law_matrix an__law_matrix cd__law_matrix ct__law_matrix), determinant := (PySem.W.fnOf "determinant" "determinant" (defArgs s_determinant) (defBody s_determinant) (defScope s_determinant) .none kV_determinant dc_determinant pm_determinant an_determinant cd_determinant ct_determinant), dot := (PySem.W.fnOf "dot" "dot" (defArgs s_dot) (defBody s_dot) (defScope s_dot) .none kV_dot dc_dot pm_dot an_dot cd_dot ct_dot), program_of := (PySem.W.fnOf "program_of" "program_of" (defArgs s_program_of) (defBody s_program_of) (defScope s_program_of) .none kV_program_of dc_program_of pm_program_of an_program_of cd_program_of ct_program_of), turned := (PySem.W.fnOf "turned" "turned" (defArgs s_turned) (defBody s_turned) (defScope s_turned) .none kV_turned dc_turned pm_turned an_turned cd_turned ct_turned), _law_integer := (PySem.W.fnOf "_law_integer" "_law_integer" (defArgs s__law_integer) (defBody s__law_integer) (defScope s__law_integer) .none kV__law_integer dc__law_integer pm__law_integer an__law_integer cd__law_integer ct__law_integer), _law_same := (PySem.W.fnOf "_law_same" "_law_same" (defArgs s__law_same) (defBody s__law_same) (defScope s__law_same) .none kV__law_same dc__law_same pm__law_same an__law_same cd__law_same ct__law_same), _law_is := (PySem.W.fnOf "_law_is" "_law_is" (defArgs s__law_is) (defBody s__law_is) (defScope s__law_is) .none kV__law_is dc__law_is pm__law_is an__law_is cd__law_is ct__law_is), _law_led := (PySem.W.fnOf "_law_led" "_law_led" (defArgs s__law_led) (defBody s__law_led) (defScope s__law_led) .none kV__law_led dc__law_led pm__law_led an__law_led cd__law_led ct__law_led), _law_sorted_parts := (PySem.W.fnOf "_law_sorted_parts" "_law_sorted_parts" (defArgs s__law_sorted_parts) (defBody s__law_sorted_parts) (defScope s__law_sorted_parts) .none kV__law_sorted_parts dc__law_sorted_parts pm__law_sorted_parts an__law_sorted_parts cd__law_sorted_parts ct__law_sorted_parts), _law_turned := (PySem.W.fnOf "_law_turned" "_law_turned" (defArgs s__law_turned) (defBody s__law_turned) (defScope s__law_turned) .none kV__law_turned dc__law_turned pm__law_turned an__law_turned cd__law_turned ct__law_turned), Program___eq__ := (PySem.W.fnOf "__eq__" "Program.__eq__" (defArgs s_Program___eq__) (defBody s_Program___eq__) (defScope s_Program___eq__) .none kV_Program___eq__ dc_Program___eq__ pm_Program___eq__ an_Program___eq__ cd_Program___eq__ ct_Program___eq__), check_number := (PySem.W.fnOf "check_number" "check_number" (defArgs s_check_number) (defBody s_check_number) (defScope s_check_number) .none kV_check_number dc_check_number pm_check_number an_check_number cd_check_number ct_check_number), stretched := (PySem.W.fnOf "stretched" "stretched" (defArgs s_stretched) (defBody s_stretched) (defScope s_stretched) .none kV_stretched dc_stretched pm_stretched an_stretched cd_stretched ct_stretched), law := (PySem.W.fnOf "law" "law" (defArgs s_law) (defBody s_law) (defScope s_law) .none kV_law dc_law pm_law an_law cd_law ct_law) } : Fd) := {
    F__law_pool := F__law_pool
    b__law_pool := b__law_pool
    k__law_pool := hk__law_pool
    m__law_pool := PySem.W.mg_of X G ha__law_pool
    F__law_draw := F__law_draw
    b__law_draw := b__law_draw
    k__law_draw := hk__law_draw
    m__law_draw := PySem.W.mg_of X G ha__law_draw
    F__law_some := F__law_some
    b__law_some := b__law_some
    k__law_some := hk__law_some
    m__law_some := PySem.W.mg_of X G ha__law_some
    F__law_step := F__law_step
    b__law_step := b__law_step
    k__law_step := hk__law_step
    m__law_step := PySem.W.mg_of X G ha__law_step
    F__law_parts := F__law_parts
    b__law_parts := b__law_parts
    k__law_parts := hk__law_parts
    m__law_parts := PySem.W.mg_of X G ha__law_parts
    F_is_integer := F_is_integer
    b_is_integer := b_is_integer
    k_is_integer := hk_is_integer
    m_is_integer := PySem.W.mg_of X G ha_is_integer
    F_is_within := F_is_within
    b_is_within := b_is_within
    k_is_within := hk_is_within
    m_is_within := PySem.W.mg_of X G ha_is_within
    F_is_triple := F_is_triple
    b_is_triple := b_is_triple
    k_is_triple := hk_is_triple
    m_is_triple := PySem.W.mg_of X G ha_is_triple
    F_are_integers := F_are_integers
    b_are_integers := b_are_integers
    k_are_integers := hk_are_integers
    m_are_integers := PySem.W.mg_of X G ha_are_integers
    F_are_within := F_are_within
    b_are_within := b_are_within
    k_are_within := hk_are_within
    m_are_within := PySem.W.mg_of X G ha_are_within
    F_is_reading := F_is_reading
    b_is_reading := b_is_reading
    k_is_reading := hk_is_reading
    m_is_reading := PySem.W.mg_of X G ha_is_reading
    F_Program_keep := F_Program_keep
    b_Program_keep := b_Program_keep
    k_Program_keep := hk_Program_keep
    fn_Program_keep := hf_Program_keep
    me_Program_keep := ⟨ha_Program_keep, hf_Program_keep, hk_Program_keep⟩
    F_Program___init__ := F_Program___init__
    b_Program___init__ := b_Program___init__
    k_Program___init__ := hk_Program___init__
    fn_Program___init__ := hf_Program___init__
    F__law_program := F__law_program
    b__law_program := b__law_program
    k__law_program := hk__law_program
    m__law_program := PySem.W.mg_of X G ha__law_program
    F__law_doings := F__law_doings
    b__law_doings := b__law_doings
    k__law_doings := hk__law_doings
    m__law_doings := PySem.W.mg_of X G ha__law_doings
    F__law_plain_matrix := F__law_plain_matrix
    b__law_plain_matrix := b__law_plain_matrix
    k__law_plain_matrix := hk__law_plain_matrix
    m__law_plain_matrix := PySem.W.mg_of X G ha__law_plain_matrix
    F__law_done := F__law_done
    b__law_done := b__law_done
    k__law_done := hk__law_done
    m__law_done := PySem.W.mg_of X G ha__law_done
    F__law_matrix := F__law_matrix
    b__law_matrix := b__law_matrix
    k__law_matrix := hk__law_matrix
    m__law_matrix := PySem.W.mg_of X G ha__law_matrix
    F_determinant := F_determinant
    b_determinant := b_determinant
    k_determinant := hk_determinant
    m_determinant := PySem.W.mg_of X G ha_determinant
    F_dot := F_dot
    b_dot := b_dot
    k_dot := hk_dot
    m_dot := PySem.W.mg_of X G ha_dot
    F_program_of := F_program_of
    b_program_of := b_program_of
    k_program_of := hk_program_of
    m_program_of := PySem.W.mg_of X G ha_program_of
    F_turned := F_turned
    b_turned := b_turned
    k_turned := hk_turned
    m_turned := PySem.W.mg_of X G ha_turned
    F__law_integer := F__law_integer
    b__law_integer := b__law_integer
    k__law_integer := hk__law_integer
    m__law_integer := PySem.W.mg_of X G ha__law_integer
    F__law_same := F__law_same
    b__law_same := b__law_same
    k__law_same := hk__law_same
    m__law_same := PySem.W.mg_of X G ha__law_same
    F__law_is := F__law_is
    b__law_is := b__law_is
    k__law_is := hk__law_is
    m__law_is := PySem.W.mg_of X G ha__law_is
    F__law_led := F__law_led
    b__law_led := b__law_led
    k__law_led := hk__law_led
    m__law_led := PySem.W.mg_of X G ha__law_led
    F__law_sorted_parts := F__law_sorted_parts
    b__law_sorted_parts := b__law_sorted_parts
    k__law_sorted_parts := hk__law_sorted_parts
    m__law_sorted_parts := PySem.W.mg_of X G ha__law_sorted_parts
    F__law_turned := F__law_turned
    b__law_turned := b__law_turned
    k__law_turned := hk__law_turned
    m__law_turned := PySem.W.mg_of X G ha__law_turned
    F_Program___eq__ := F_Program___eq__
    b_Program___eq__ := b_Program___eq__
    k_Program___eq__ := hk_Program___eq__
    fn_Program___eq__ := hf_Program___eq__
    F_check_number := F_check_number
    b_check_number := b_check_number
    k_check_number := hk_check_number
    m_check_number := PySem.W.mg_of X G ha_check_number
    F_stretched := F_stretched
    b_stretched := b_stretched
    k_stretched := hk_stretched
    m_stretched := PySem.W.mg_of X G ha_stretched
    F_law := F_law
    b_law := b_law
    k_law := hk_law
    m_law := PySem.W.mg_of X G ha_law
    m_Program := PySem.W.mg_of X G ha_Program
    kc_Program := kc_Program
    mk_Program := ⟨hm_Program, ha_Program___init__, hf_Program___init__, hq_Program⟩
    e_Program := ha_Program___eq__
    ne_Program := hne_Program
    n_Program_readings := hn_Program_readings
    n_Program_sides := hn_Program_sides
    n_Program_tables := hn_Program_tables
    c_MOST_READINGS := ⟨_, PySem.W.mg_of X G hv_MOST_READINGS, ⟨_, rfl⟩⟩
    c_MOST_SIDES := ⟨_, PySem.W.mg_of X G hv_MOST_SIDES, ⟨_, rfl⟩⟩
    c_MOST_STEP := ⟨_, PySem.W.mg_of X G hv_MOST_STEP, ⟨_, rfl⟩⟩
    c_MOST_TABLES := ⟨_, PySem.W.mg_of X G hv_MOST_TABLES, ⟨_, rfl⟩⟩
    c_MOST_TIMES := ⟨_, PySem.W.mg_of X G hv_MOST_TIMES, ⟨_, rfl⟩⟩
    z_abs := PySem.W.mg_none_of X G hz_abs
    z_all := PySem.W.mg_none_of X G hz_all
    z_bool := PySem.W.mg_none_of X G hz_bool
    z_enumerate := PySem.W.mg_none_of X G hz_enumerate
    z_int := PySem.W.mg_none_of X G hz_int
    z_isinstance := PySem.W.mg_none_of X G hz_isinstance
    z_len := PySem.W.mg_none_of X G hz_len
    z_list := PySem.W.mg_none_of X G hz_list
    z_range := PySem.W.mg_none_of X G hz_range
    z_set := PySem.W.mg_none_of X G hz_set
    z_sorted := PySem.W.mg_none_of X G hz_sorted
    z_str := PySem.W.mg_none_of X G hz_str
    z_sum := PySem.W.mg_none_of X G hz_sum
    z_tuple := PySem.W.mg_none_of X G hz_tuple
    z_zip := PySem.W.mg_none_of X G hz_zip
    isC := fun C h => by
      unfold isC at h
      simp only [Bool.or_eq_true, decide_eq_true_eq] at h
      rcases h with rfl
      · exact kc_Program
    xt_BadProgram := { cls := ⟨_, _, _, _, _, _, _, _, _, _, _, _, _, _, _, xa_BadProgram, by rfl⟩, sa := xb_BadProgram, iC := xc_BadProgram, tC := xd_BadProgram, veC := xe_BadProgram, cell := ⟨_, _, _, xg_BadProgram⟩, sub := xh_BadProgram, sup := xsup, tp := xtp, top := xtop, along := xi_BadProgram }
    xn_BadProgram := { args := fun fd us h1 h2 h3 h4 => (match us, h4 with | [_, _], _ => by cases fd; dsimp only at h1 h2 h3; subst h1 h2 h3; rfl), he := ⟨_, fun _ _ _ _ _ => rfl⟩, fn := ⟨_, _, _, _, _, _, _, _, _, _, _, _, _, _, _, xf_BadProgram, xj_BadProgram, xk_BadProgram, xl_BadProgram, xm_BadProgram⟩ }
    nx_BadProgram_part := xw_BadProgram
    xf_BadProgram := ⟨xr_BadProgram, xs_BadProgram, xp_BadProgram, xt_BadProgram⟩
    kk_BadProgram := xo_BadProgram
    ex_BadProgram := xp_BadProgram
    ty_BadProgram := xq_BadProgram
    xt_NoMatrix := { cls := ⟨_, _, _, _, _, _, _, _, _, _, _, _, _, _, _, xa_NoMatrix, by rfl⟩, sa := xb_NoMatrix, iC := xc_NoMatrix, tC := xd_NoMatrix, veC := xe_NoMatrix, cell := ⟨_, _, _, xg_NoMatrix⟩, sub := xh_NoMatrix, sup := xsup, tp := xtp, top := xtop, along := xi_NoMatrix }
    xn_NoMatrix := { args := fun fd us h1 h2 h3 h4 => (match us, h4 with | [_], _ => by cases fd; dsimp only at h1 h2 h3; subst h1 h2 h3; rfl), he := ⟨_, fun _ _ _ _ _ => rfl⟩, fn := ⟨_, _, _, _, _, _, _, _, _, _, _, _, _, _, _, xf_NoMatrix, xj_NoMatrix, xk_NoMatrix, xl_NoMatrix, xm_NoMatrix⟩ }
    kk_NoMatrix := xo_NoMatrix
    ex_NoMatrix := xp_NoMatrix
    ty_NoMatrix := xq_NoMatrix
    xt_NoNumber := { cls := ⟨_, _, _, _, _, _, _, _, _, _, _, _, _, _, _, xa_NoNumber, by rfl⟩, sa := xb_NoNumber, iC := xc_NoNumber, tC := xd_NoNumber, veC := xe_NoNumber, cell := ⟨_, _, _, xg_NoNumber⟩, sub := xh_NoNumber, sup := xsup, tp := xtp, top := xtop, along := xi_NoNumber }
    xn_NoNumber := { args := fun fd us h1 h2 h3 h4 => (match us, h4 with | [_], _ => by cases fd; dsimp only at h1 h2 h3; subst h1 h2 h3; rfl), he := ⟨_, fun _ _ _ _ _ => rfl⟩, fn := ⟨_, _, _, _, _, _, _, _, _, _, _, _, _, _, _, xf_NoNumber, xj_NoNumber, xk_NoNumber, xl_NoNumber, xm_NoNumber⟩ }
    kk_NoNumber := xo_NoNumber
    ex_NoNumber := xp_NoNumber
    ty_NoNumber := xq_NoNumber
    m_BadProgram := PySem.W.mg_of X G ha_BadProgram
    m_NoMatrix := PySem.W.mg_of X G ha_NoMatrix
    m_NoNumber := PySem.W.mg_of X G ha_NoNumber
    xt := ⟨fun e he => (by cases he), fun e he => (by cases he)⟩
  }
  exact ⟨(PySem.W.fnOf "law" "law" (defArgs s_law) (defBody s_law) (defScope s_law) .none kV_law dc_law pm_law an_law cd_law ct_law), fun s v => .of_eq rfl, fun base _ _ => ok_law T⟩
end Lk03
/-! SH: functions that many laws share. -/
namespace SH
open PySem PySem.Spec DL
noncomputable def d__law_ringed_c1e (A : Ad) : DE S :=
  tupD (consL (varD 4) (consL (bin2 (cbD (un1 intD) (consL (bin2 (varD 4) (cD (.int 1)) addS) (nilL))) (varD 2) (opD modD)) (consL (callD (phi__law_step A) (consL (varD 0) (consL (varD 1) (nilL)))) (nilL))))
noncomputable def d__law_ringed_c1 (A : Ad) : DE S :=
  compC (range1 (consL (varD 2) (nilL))) [4] (nameG 4) (yesB) (d__law_ringed_c1e A)
noncomputable def d__law_ringed_b3 (A : Ad) : DS :=
  exprS (mthL appS (varD 3) (consL (tupD (consL (callD (drawF) (consL (varD 0) (consL (varD 2) (nilL)))) (consL (callD (drawF) (consL (varD 0) (consL (varD 2) (nilL)))) (consL (callD (phi__law_step A) (consL (varD 0) (consL (varD 1) (nilL)))) (nilL))))) (nilL)))
noncomputable def d__law_ringed (A : Ad) : DS :=
  seqS (asgS 1 (bin2 (cD (.int 1)) (callD (drawF) (consL (varD 0) (consL (cD (.int 4)) (nilL)))) addS)) (seqS (asgS 2 (bin2 (cD (.int 1)) (callD (phi__law_some A) (consL (varD 0) (consL (lstD (consL (cD (.int 0)) (consL (cD (.int 1)) (consL (cD (.int 1)) (consL (cD (.int 2)) (consL (cD (.int 3)) (consL (cD (.int 7)) (nilL)))))))) (nilL)))) addS)) (seqS (asgS 3 (d__law_ringed_c1 A)) (seqS (forS (range1 (consL (callD (phi__law_some A) (consL (varD 0) (consL (lstD (consL (cD (.int 0)) (consL (cD (.int 1)) (consL (cD (.int 2)) (consL (cD (.int 3)) (consL (cD (.int 5)) (consL (cD (.int 12)) (nilL)))))))) (nilL)))) (nilL))) (nameG 4) (d__law_ringed_b3 A)) (retS (tupD (consL (varD 1) (consL (varD 2) (consL (cbD (tupC) (consL (DLS.sortSetD (varD 3)) (nilL))) (nilL)))))))))
noncomputable def phi__law_ringed (A : Ad) : DF := defD 5 (d__law_ringed A)
noncomputable def d__law_from_c1e (A : Ad) : DE S :=
  varD 2
noncomputable def d__law_from_c1t (A : Ad) : DE Bool :=
  asB (bin2 (bin2 (bin2 (bin2 (varD 0) (cD (.int 2)) ixS) (varD 2) ixS) (cD (.int 0)) ixS) (varD 1) (opD eqD))
noncomputable def d__law_from_c1 (A : Ad) : DE S :=
  compD (range1 (consL (cbD (un1 lenD) (consL (bin2 (varD 0) (cD (.int 2)) ixS) (nilL))) (nilL))) [2] (nameG 2) (d__law_from_c1t A) (d__law_from_c1e A)
noncomputable def d__law_from (A : Ad) : DS :=
  retS (d__law_from_c1 A)
noncomputable def phi__law_from (A : Ad) : DF := defD 3 (d__law_from A)
noncomputable def d__law_walk_b1 (A : Ad) : DS :=
  seqS (asgS 5 (callD (phi__law_from A) (consL (varD 1) (consL (bin2 (bin2 (bin2 (varD 1) (cD (.int 2)) ixS) (bin2 (varD 3) (un1D negS (cD (.int 1))) ixS) ixS) (cD (.int 1)) ixS) (nilL))))) (seqS (ifS (asB (bin2 (cbD (un1 lenD) (consL (varD 5) (nilL))) (cD (.int 0)) (opD eqD))) (breakS) (nextS)) (exprS (mthL appS (varD 3) (consL (callD (phi__law_some A) (consL (varD 0) (consL (varD 5) (nilL)))) (nilL)))))
noncomputable def d__law_walk (A : Ad) : DS :=
  seqS (asgS 3 (celD (nilL))) (seqS (ifS (asB (bin2 (cbD (un1 lenD) (consL (bin2 (varD 1) (cD (.int 2)) ixS) (nilL))) (cD (.int 0)) (opD gtD))) (seqS (exprS (mthL appS (varD 3) (consL (callD (drawF) (consL (varD 0) (consL (cbD (un1 lenD) (consL (bin2 (varD 1) (cD (.int 2)) ixS) (nilL))) (nilL)))) (nilL)))) (forS (range1 (consL (callD (drawF) (consL (varD 0) (consL (varD 2) (nilL)))) (nilL))) (nameG 4) (d__law_walk_b1 A))) (nextS)) (retS (cbD (tupC) (consL (varD 3) (nilL)))))
noncomputable def phi__law_walk (A : Ad) : DF := defD 6 (d__law_walk A)
noncomputable def d_is_rounds (A : Ad) : DS :=
  seqS (ifS (orB (notB (asB (callD (phi_is_triple A) (consL (varD 0) (nilL))))) (orB (notB (asB (cbD (isiS A.isC) (consL (bin2 (varD 0) (cD (.int 0)) ixS) (consL (cD (.typ "str")) (nilL)))))) (asB (bin2 (bin2 (varD 0) (cD (.int 0)) ixS) (cD (.str "times")) (opD neD))))) (retS (cD (.bl false))) (nextS)) (retS (andV (callD (phi_is_integer A) (consL (bin2 (varD 0) (cD (.int 1)) ixS) (nilL))) (andV (bin2 (bin2 (varD 0) (cD (.int 1)) ixS) (cD (.int 1)) (opD geD)) (andV (cbD (isiS A.isC) (consL (bin2 (varD 0) (cD (.int 2)) ixS) (consL (cD (.typ "tuple")) (nilL)))) (bin2 (cbD (un1 lenD) (consL (bin2 (varD 0) (cD (.int 2)) ixS) (nilL))) (cD (.int 0)) (opD gtD))))))
noncomputable def phi_is_rounds (A : Ad) : DF := defD 1 (d_is_rounds A)
noncomputable def d_is_built_b1 (A : Ad) (psi : DF) : DS :=
  ifS (notB (asB (callD (phi_is_within A) (consL (varD 3) (consL (cD (.int 0)) (consL (bin2 (cbD (un1 lenD) (consL (un1D (fldS A.Program "readings") (varD 0)) (nilL))) (cD (.int 1)) (opD subD)) (nilL))))))) (ifS (orB (asB (bin2 (varD 2) (cD (.int 0)) (opD eqD))) (orB (notB (asB (callD (phi_is_rounds A) (consL (varD 3) (nilL))))) (notB (asB (callD psi (consL (varD 0) (consL (bin2 (varD 3) (cD (.int 2)) ixS) (consL (bin2 (varD 2) (cD (.int 1)) (opD subD)) (nilL))))))))) (retS (cD (.bl false))) (nextS)) (nextS)
noncomputable def d_is_built (A : Ad) (psi : DF) : DS :=
  seqS (ifS (notB (asB (cbD (isiS A.isC) (consL (varD 1) (consL (cD (.typ "tuple")) (nilL)))))) (retS (cD (.bl false))) (nextS)) (seqS (forS (seqI (varD 1)) (nameG 3) (d_is_built_b1 A psi)) (retS (cD (.bl true))))
noncomputable def phi_is_built (A : Ad) : DF := recD (fun psi => defD 4 (d_is_built A psi)) 40
noncomputable def d_Summary___init__ (A : Ad) : DS :=
  seqS (sfldS A.Summary "begin" (varD 0) (varD 1)) (seqS (sfldS A.Summary "end" (varD 0) (varD 2)) (seqS (sfldS A.Summary "length" (varD 0) (varD 3)) (seqS (sfldS A.Summary "added" (varD 0) (varD 4)) (seqS (sfldS A.Summary "least" (varD 0) (varD 5)) (seqS (sfldS A.Summary "most" (varD 0) (varD 6)) (sfldS A.Summary "stands" (varD 0) (varD 7)))))))
noncomputable def phi_Summary___init__ (A : Ad) : DF := defD 8 (d_Summary___init__ A)
noncomputable def d_still (A : Ad) : DS :=
  seqS (asgS 1 (bin2 (tupD (consL (cD (.int 0)) (nilL))) (un1D (fldS A.Program "sides") (varD 0)) mulS)) (retS (frzD (makeC A.Summary (phi_Summary___init__ A) (consL (cD .non) (consL (cD .non) (consL (cD (.int 0)) (consL (varD 1) (consL (varD 1) (consL (varD 1) (consL (bin2 (tupD (consL (cD (.int 0)) (nilL))) (un1D (fldS A.Program "tables") (varD 0)) mulS) (nilL)))))))))))
noncomputable def phi_still (A : Ad) : DF := defD 2 (d_still A)
noncomputable def d_one_reading_c1e (A : Ad) : DE S :=
  cbD (un2 minD) (consL (cD (.int 0)) (consL (un1D negS (varD 8)) (nilL)))
noncomputable def d_one_reading_c1 (A : Ad) : DE S :=
  compD (seqI (varD 7)) [8] (nameG 8) (yesB) (d_one_reading_c1e A)
noncomputable def d_one_reading_c3e (A : Ad) : DE S :=
  cbD (un2 maxD) (consL (cD (.int 0)) (consL (un1D negS (varD 8)) (nilL)))
noncomputable def d_one_reading_c3 (A : Ad) : DE S :=
  compD (seqI (varD 7)) [8] (nameG 8) (yesB) (d_one_reading_c3e A)
noncomputable def d_one_reading_c5e (A : Ad) : DE S :=
  cbD (un1 intD) (consL (bin2 (varD 9) (varD 6) (opD eqD)) (nilL))
noncomputable def d_one_reading_c5 (A : Ad) : DE S :=
  compD (range1 (consL (un1D (fldS A.Program "tables") (varD 0)) (nilL))) [9] (nameG 9) (yesB) (d_one_reading_c5e A)
noncomputable def d_one_reading (A : Ad) : DS :=
  seqS (setS (tupG 3 (consG (nameG 5) (consG (nameG 6) (consG (nameG 7) (nilG))))) (bin2 (un1D (fldS A.Program "readings") (varD 0)) (varD 1) ixS)) (seqS (asgS 2 (cbD (tupC) (consL (d_one_reading_c1 A) (nilL)))) (seqS (asgS 3 (cbD (tupC) (consL (d_one_reading_c3 A) (nilL)))) (seqS (asgS 4 (cbD (tupC) (consL (d_one_reading_c5 A) (nilL)))) (retS (frzD (makeC A.Summary (phi_Summary___init__ A) (consL (varD 5) (consL (varD 6) (consL (cD (.int 1)) (consL (varD 7) (consL (varD 2) (consL (varD 3) (consL (varD 4) (nilL))))))))))))))
noncomputable def phi_one_reading (A : Ad) : DF := defD 10 (d_one_reading A)
noncomputable def d_Summary_again_c1e (A : Ad) : DE S :=
  bin2 (un1D negS (bin2 (varD 1) (cD (.int 1)) (opD subD))) (varD 7) mulS
noncomputable def d_Summary_again_c1 (A : Ad) : DE S :=
  compD (seqI (un1D (fldS A.Summary "added") (varD 0))) [7] (nameG 7) (yesB) (d_Summary_again_c1e A)
noncomputable def d_Summary_again_c3e (A : Ad) : DE S :=
  bin2 (varD 9) (cbD (un2 minD) (consL (cD (.int 0)) (consL (varD 10) (nilL)))) addS
noncomputable def d_Summary_again_c3 (A : Ad) : DE S :=
  compD (zipI2 (consL (un1D (fldS A.Summary "least") (varD 0)) (consL (varD 2) (nilL)))) [9, 10] (tupG 2 (consG (nameG 9) (consG (nameG 10) (nilG)))) (yesB) (d_Summary_again_c3e A)
noncomputable def d_Summary_again_c5e (A : Ad) : DE S :=
  bin2 (varD 9) (cbD (un2 maxD) (consL (cD (.int 0)) (consL (varD 10) (nilL)))) addS
noncomputable def d_Summary_again_c5 (A : Ad) : DE S :=
  compD (zipI2 (consL (un1D (fldS A.Summary "most") (varD 0)) (consL (varD 2) (nilL)))) [9, 10] (tupG 2 (consG (nameG 9) (consG (nameG 10) (nilG)))) (yesB) (d_Summary_again_c5e A)
noncomputable def d_Summary_again_c7e (A : Ad) : DE S :=
  bin2 (varD 1) (varD 7) mulS
noncomputable def d_Summary_again_c7 (A : Ad) : DE S :=
  compD (seqI (un1D (fldS A.Summary "added") (varD 0))) [7] (nameG 7) (yesB) (d_Summary_again_c7e A)
noncomputable def d_Summary_again_c9e (A : Ad) : DE S :=
  bin2 (varD 1) (varD 8) mulS
noncomputable def d_Summary_again_c9 (A : Ad) : DE S :=
  compD (seqI (un1D (fldS A.Summary "stands") (varD 0))) [8] (nameG 8) (yesB) (d_Summary_again_c9e A)
noncomputable def d_Summary_again (A : Ad) : DS :=
  seqS (ifS (andB (asB (bin2 (varD 1) (cD (.int 1)) (opD gtD))) (asB (bin2 (un1D (fldS A.Summary "begin") (varD 0)) (un1D (fldS A.Summary "end") (varD 0)) (opD neD)))) (retS (cD .non)) (nextS)) (seqS (asgS 2 (d_Summary_again_c1 A)) (seqS (asgS 3 (cbD (tupC) (consL (d_Summary_again_c3 A) (nilL)))) (seqS (asgS 4 (cbD (tupC) (consL (d_Summary_again_c5 A) (nilL)))) (seqS (asgS 5 (cbD (tupC) (consL (d_Summary_again_c7 A) (nilL)))) (seqS (asgS 6 (cbD (tupC) (consL (d_Summary_again_c9 A) (nilL)))) (retS (frzD (makeC A.Summary (phi_Summary___init__ A) (consL (un1D (fldS A.Summary "begin") (varD 0)) (consL (un1D (fldS A.Summary "end") (varD 0)) (consL (bin2 (varD 1) (un1D (fldS A.Summary "length") (varD 0)) mulS) (consL (varD 5) (consL (varD 3) (consL (varD 4) (consL (varD 6) (nilL))))))))))))))))
noncomputable def phi_Summary_again (A : Ad) : DF := defD 11 (d_Summary_again A)
noncomputable def d_Summary_behind_c1e (A : Ad) : DE S :=
  bin2 (varD 6) (varD 7) addS
noncomputable def d_Summary_behind_c1 (A : Ad) : DE S :=
  compD (zipI2 (consL (un1D (fldS A.Summary "added") (varD 0)) (consL (un1D (fldS A.Summary "added") (varD 1)) (nilL)))) [6, 7] (tupG 2 (consG (nameG 6) (consG (nameG 7) (nilG)))) (yesB) (d_Summary_behind_c1e A)
noncomputable def d_Summary_behind_c3e (A : Ad) : DE S :=
  cbD (un2 minD) (consL (varD 6) (consL (bin2 (varD 7) (varD 8) (opD subD)) (nilL)))
noncomputable def d_Summary_behind_c3 (A : Ad) : DE S :=
  compD (zipI3 (consL (un1D (fldS A.Summary "least") (varD 0)) (consL (un1D (fldS A.Summary "least") (varD 1)) (consL (un1D (fldS A.Summary "added") (varD 0)) (nilL))))) [6, 7, 8] (tupG 3 (consG (nameG 6) (consG (nameG 7) (consG (nameG 8) (nilG))))) (yesB) (d_Summary_behind_c3e A)
noncomputable def d_Summary_behind_c5e (A : Ad) : DE S :=
  cbD (un2 maxD) (consL (varD 6) (consL (bin2 (varD 7) (varD 8) (opD subD)) (nilL)))
noncomputable def d_Summary_behind_c5 (A : Ad) : DE S :=
  compD (zipI3 (consL (un1D (fldS A.Summary "most") (varD 0)) (consL (un1D (fldS A.Summary "most") (varD 1)) (consL (un1D (fldS A.Summary "added") (varD 0)) (nilL))))) [6, 7, 8] (tupG 3 (consG (nameG 6) (consG (nameG 7) (consG (nameG 8) (nilG))))) (yesB) (d_Summary_behind_c5e A)
noncomputable def d_Summary_behind_c7e (A : Ad) : DE S :=
  bin2 (varD 6) (varD 7) addS
noncomputable def d_Summary_behind_c7 (A : Ad) : DE S :=
  compD (zipI2 (consL (un1D (fldS A.Summary "stands") (varD 0)) (consL (un1D (fldS A.Summary "stands") (varD 1)) (nilL)))) [6, 7] (tupG 2 (consG (nameG 6) (consG (nameG 7) (nilG)))) (yesB) (d_Summary_behind_c7e A)
noncomputable def d_Summary_behind (A : Ad) : DS :=
  seqS (ifS (asB (bin2 (un1D (fldS A.Summary "length") (varD 0)) (cD (.int 0)) (opD eqD))) (retS (varD 1)) (nextS)) (seqS (ifS (asB (bin2 (un1D (fldS A.Summary "length") (varD 1)) (cD (.int 0)) (opD eqD))) (retS (varD 0)) (nextS)) (seqS (ifS (asB (bin2 (un1D (fldS A.Summary "end") (varD 0)) (un1D (fldS A.Summary "begin") (varD 1)) (opD neD))) (retS (cD .non)) (nextS)) (seqS (asgS 2 (cbD (tupC) (consL (d_Summary_behind_c1 A) (nilL)))) (seqS (asgS 3 (cbD (tupC) (consL (d_Summary_behind_c3 A) (nilL)))) (seqS (asgS 4 (cbD (tupC) (consL (d_Summary_behind_c5 A) (nilL)))) (seqS (asgS 5 (cbD (tupC) (consL (d_Summary_behind_c7 A) (nilL)))) (retS (frzD (makeC A.Summary (phi_Summary___init__ A) (consL (un1D (fldS A.Summary "begin") (varD 0)) (consL (un1D (fldS A.Summary "end") (varD 1)) (consL (bin2 (un1D (fldS A.Summary "length") (varD 0)) (un1D (fldS A.Summary "length") (varD 1)) addS) (consL (varD 2) (consL (varD 3) (consL (varD 4) (consL (varD 5) (nilL)))))))))))))))))
noncomputable def phi_Summary_behind (A : Ad) : DF := defD 9 (d_Summary_behind A)
noncomputable def d_summary_b1 (A : Ad) (psi : DF) : DS :=
  seqS (ifS (asB (callD (phi_is_integer A) (consL (varD 3) (nilL)))) (asgS 4 (callD (phi_one_reading A) (consL (varD 0) (consL (varD 3) (nilL))))) (seqS (asgS 5 (callD psi (consL (varD 0) (consL (bin2 (varD 3) (cD (.int 2)) ixS) (nilL))))) (asgS 4 (ifD (asB (bin2 (varD 5) (cD .non) (isNF false))) (cD .non) (methF A.Summary "again" (phi_Summary_again A) (varD 5) (consL (bin2 (varD 3) (cD (.int 1)) ixS) (nilL))))))) (seqS (asgS 2 (ifD (asB (bin2 (varD 4) (cD .non) (isNF false))) (cD .non) (methF A.Summary "behind" (phi_Summary_behind A) (varD 2) (consL (varD 4) (nilL))))) (ifS (asB (bin2 (varD 2) (cD .non) (isNF false))) (retS (cD .non)) (nextS)))
noncomputable def d_summary (A : Ad) (psi : DF) : DS :=
  seqS (asgS 2 (callD (phi_still A) (consL (varD 0) (nilL)))) (seqS (forS (seqI (varD 1)) (nameG 3) (d_summary_b1 A psi)) (retS (varD 2)))
noncomputable def phi_summary (A : Ad) : DF := recD (fun psi => defD 6 (d_summary A psi)) 40
noncomputable def d_is_walk (A : Ad) : DS :=
  retS (andV (callD (phi_is_built A) (consL (varD 0) (consL (varD 1) (consL (cD (.int 0)) (nilL))))) (bin2 (callD (phi_summary A) (consL (varD 0) (consL (varD 1) (nilL)))) (cD .non) (isNF true)))
noncomputable def phi_is_walk (A : Ad) : DF := defD 2 (d_is_walk A)
noncomputable def d_is_log (A : Ad) : DS :=
  retS (andV (callD (phi_is_built A) (consL (varD 0) (consL (varD 1) (consL (cD (.int 30)) (nilL))))) (bin2 (callD (phi_summary A) (consL (varD 0) (consL (varD 1) (nilL)))) (cD .non) (isNF true)))
noncomputable def phi_is_log (A : Ad) : DF := defD 2 (d_is_log A)
noncomputable def d__law_deep_b1 (A : Ad) : DS :=
  asgS 1 (tupD (consL (varD 1) (nilL)))
noncomputable def d__law_deep (A : Ad) : DS :=
  seqS (asgS 1 (tupD (nilL))) (seqS (forS (range1 (consL (varD 0) (nilL))) (nameG 2) (d__law_deep_b1 A)) (retS (varD 1)))
noncomputable def phi__law_deep (A : Ad) : DF := defD 3 (d__law_deep A)
noncomputable def d__law_strange (A : Ad) : DS :=
  seqS (asgS 1 (lstD (consL (cD .non) (consL (cD (.bl true)) (consL (cD (.bl false)) (consL (cD (.int 0)) (consL (cD (.int 1)) (consL (un1D negS (cD (.int 1))) (consL (cD (.int 2)) (consL (bin2 (cD (.int 10)) (cD (.int 64)) (opD powD)) (consL (cD (.str "")) (consL (cD (.str "0")) (consL (cD (.str "boxes")) (consL (lstD (nilL)) (consL (lstD (consL (cD (.int 0)) (nilL))) (consL (cD (.dct [])) (consL (cD (.dct [(Sum.inr "a", .int 1)])) (consL (tupD (nilL)) (consL (tupD (consL (cD (.int 0)) (nilL))) (consL (tupD (consL (cD (.int 0)) (consL (cD (.int 0)) (nilL)))) (consL (tupD (consL (cD (.bl true)) (nilL))) (consL (tupD (consL (cD (.str "0")) (nilL))) (nilL))))))))))))))))))))))) (retS (callD (phi__law_some A) (consL (varD 0) (consL (bin2 (varD 1) (lstD (consL (tupD (consL (cD .non) (nilL))) (consL (tupD (consL (cD (.int 0)) (consL (cD (.int 0)) (consL (tupD (consL (cD (.int 0)) (nilL))) (nilL))))) (consL (callD (phi__law_deep A) (consL (cD (.int 70)) (nilL))) (consL (frzD (makeC A.Program (phi_Program___init__ A) (consL (cD (.int 1)) (consL (cD (.int 1)) (consL (tupD (nilL)) (nilL)))))) (consL (tupD (consL (frzD (makeC A.Program (phi_Program___init__ A) (consL (cD (.int 1)) (consL (cD (.int 1)) (consL (tupD (nilL)) (nilL)))))) (nilL))) (consL (bin2 (tupD (consL (cD (.int 0)) (nilL))) (cD (.int 9000)) mulS) (nilL)))))))) addS) (nilL)))))
noncomputable def phi__law_strange (A : Ad) : DF := defD 2 (d__law_strange A)
noncomputable def d__law_with (A : Ad) : DS :=
  retS (cbD (tupC) (consL (bin2 (bin2 (cbD lstC (consL (slD (varD 0) (noO) (someO (varD 1))) (nilL))) (lstD (consL (varD 2) (nilL))) addS) (cbD lstC (consL (slD (varD 0) (someO (bin2 (varD 1) (cD (.int 1)) addS)) (noO)) (nilL))) addS) (nilL)))
noncomputable def phi__law_with (A : Ad) : DF := defD 3 (d__law_with A)
noncomputable def d__law_is_walk_b1 (A : Ad) : DS :=
  ifS (orB (notB (asB (callD (phi__law_integer A) (consL (bin2 (varD 1) (varD 2) ixS) (nilL))))) (orB (asB (bin2 (bin2 (varD 1) (varD 2) ixS) (cD (.int 0)) (opD ltD))) (asB (bin2 (bin2 (varD 1) (varD 2) ixS) (cbD (un1 lenD) (consL (bin2 (varD 0) (cD (.int 2)) ixS) (nilL))) (opD geD))))) (retS (cD (.bl false))) (nextS)
noncomputable def d__law_is_walk_b2 (A : Ad) : DS :=
  ifS (asB (bin2 (bin2 (bin2 (bin2 (varD 0) (cD (.int 2)) ixS) (bin2 (varD 1) (bin2 (varD 2) (cD (.int 1)) (opD subD)) ixS) ixS) (cD (.int 1)) ixS) (bin2 (bin2 (bin2 (varD 0) (cD (.int 2)) ixS) (bin2 (varD 1) (varD 2) ixS) ixS) (cD (.int 0)) ixS) (opD neD))) (retS (cD (.bl false))) (nextS)
noncomputable def d__law_is_walk (A : Ad) : DS :=
  seqS (ifS (notB (asB (cbD (isiS A.isC) (consL (varD 1) (consL (cD (.typ "tuple")) (nilL)))))) (retS (cD (.bl false))) (nextS)) (seqS (forS (range1 (consL (cbD (un1 lenD) (consL (varD 1) (nilL))) (nilL))) (nameG 2) (d__law_is_walk_b1 A)) (seqS (forS (range2 (consL (cD (.int 1)) (consL (cbD (un1 lenD) (consL (varD 1) (nilL))) (nilL)))) (nameG 2) (d__law_is_walk_b2 A)) (retS (cD (.bl true)))))
noncomputable def phi__law_is_walk (A : Ad) : DF := defD 3 (d__law_is_walk A)
end SH
namespace SH
open PySem PySem.Spec DL DLS PySem.W
open L2 hiding keyOf
theorem loop_nx {h : DG} {body : DS} {d : D} {ds : List D} {ρ ρ1 ρ2 : DL.Env} {g g2 : G} (h1 : h (.d d) ρ = some ρ1) (h2 : body ρ1 g = .nx ρ2 g2) : loopS h body (d :: ds) ρ g = loopS h body ds ρ2 g2 := by
  rw [loopS, h1]
  dsimp only
  rw [h2]
theorem loop_rt {h : DG} {body : DS} {d : D} {ds : List D} {ρ ρ1 : DL.Env} {g g2 : G} {s : S} (h1 : h (.d d) ρ = some ρ1) (h2 : body ρ1 g = .rt s g2) : loopS h body (d :: ds) ρ g = .rt s g2 := by
  rw [loopS, h1]
  dsimp only
  rw [h2]
theorem loop_bk {h : DG} {body : DS} {d : D} {ds : List D} {ρ ρ1 ρ2 : DL.Env} {g g2 : G} (h1 : h (.d d) ρ = some ρ1) (h2 : body ρ1 g = .bk ρ2 g2) : loopS h body (d :: ds) ρ g = .nx ρ2 g2 := by
  rw [loopS, h1]
  dsimp only
  rw [h2]
theorem seq_rt2 {a b : DS} {ρ : DL.Env} {g g2 : G} {s : S} (h : a ρ g = .rt s g2) : seqS a b ρ g = .rt s g2 := by
  show (a ρ g).thn b = _
  rw [h]
  rfl
/-- what a log adds up to; b, e tell nothing where n is 0 -/
structure Sm where
  b : Int
  e : Int
  n : Int
  ad : List Int
  le : List Int
  mo : List Int
  st : List Int
abbrev tI (is : List Int) : D := .tup (is.map .int)
def endD (n i : Int) : D := if n = 0 then .non else .int i
abbrev flS (b e l a le mo st : D) : List (Str × D) := [("begin", b), ("end", e), ("length", l), ("added", a), ("least", le), ("most", mo), ("stands", st)]
def dS (A : Ad) (s : Sm) : D := .ins A.Summary (flS (endD s.n s.b) (endD s.n s.e) (.int s.n) (tI s.ad) (tI s.le) (tI s.mo) (tI s.st))
def hasN (f : Str) (gs : List (Str × D)) : Bool := gs.any fun q => decide (q.1 = f)
theorem putD_new {f : Str} {v : D} : ∀ {gs : List (Str × D)}, hasN f gs = false → putD f v gs = gs ++ [(f, v)]
  | [], _ => rfl
  | (a, b) :: gs, h => by
    unfold hasN at h
    rw [List.any_cons, Bool.or_eq_false_iff] at h
    have ne : ¬ a = f := of_decide_eq_false h.1
    unfold putD
    rw [if_neg ne, putD_new (gs := gs) h.2]
    rfl
theorem sfld_at {c : Addr} {n : Str} {fo fv : DE S} {ρ : DL.Env} {g : G} {x : D} {p : Nat} {gs hs : List (Str × D)} (hlt : p < g.length) (hv : ∀ g : G, fv ρ g = .ok (.d x) g) (ho : ∀ g : G, fo ρ g = .ok (.c p) g) (hl : gs.length < 900) (hn : hasN n gs = false) (e : gs ++ [(n, x)] = hs) :
    sfldS c n fo fv ρ (g.set p (.ins c gs)) = .nx ρ (g.set p (.ins c hs)) := by
  rw [sfld_ok (hv _) (ho _) (List.getElem?_set_self hlt) hl, List.set_set, putD_new hn, e]
section
variable (A : Ad)
theorem sum_init (b e l a le mo st : D) (g : G) (p : Nat) (hlt : p < g.length) :
    phi_Summary___init__ A [.c p, .d b, .d e, .d l, .d a, .d le, .d mo, .d st] (g.set p (.ins A.Summary [])) = .ok (.d .non) (g.set p (.ins A.Summary (flS b e l a le mo st))) := by
  have body : d_Summary___init__ A [some (.c p), some (.d b), some (.d e), some (.d l), some (.d a), some (.d le), some (.d mo), some (.d st)] (g.set p (.ins A.Summary [])) = .nx [some (.c p), some (.d b), some (.d e), some (.d l), some (.d a), some (.d le), some (.d mo), some (.d st)] (g.set p (.ins A.Summary (flS b e l a le mo st))) := by
    unfold d_Summary___init__
    refine (seq_go (sfld_at (x := b) hlt (fun g => by simp) (fun g => by simp) (by decide) rfl rfl)).trans ?_
    refine (seq_go (sfld_at (x := e) hlt (fun g => by simp) (fun g => by simp) (by simp) rfl rfl)).trans ?_
    refine (seq_go (sfld_at (x := l) hlt (fun g => by simp) (fun g => by simp) (by simp) rfl rfl)).trans ?_
    refine (seq_go (sfld_at (x := a) hlt (fun g => by simp) (fun g => by simp) (by simp) rfl rfl)).trans ?_
    refine (seq_go (sfld_at (x := le) hlt (fun g => by simp) (fun g => by simp) (by simp) rfl rfl)).trans ?_
    refine (seq_go (sfld_at (x := mo) hlt (fun g => by simp) (fun g => by simp) (by simp) rfl rfl)).trans ?_
    exact sfld_at (x := st) hlt (fun g => by simp) (fun g => by simp) (by simp) rfl rfl
  unfold phi_Summary___init__ defD
  have e1 : List.map some [S.c p, .d b, .d e, .d l, .d a, .d le, .d mo, .d st] ++ List.replicate (8 - [S.c p, .d b, .d e, .d l, .d a, .d le, .d mo, .d st].length) none = [some (.c p), some (.d b), some (.d e), some (.d l), some (.d a), some (.d le), some (.d mo), some (.d st)] := rfl
  rw [e1, body]
  dsimp only
  rw [List.length_set, List.take_of_length_le (by rw [List.length_set]; exact Nat.le_refl _)]
theorem sum_make {b e l a le mo st : D} {fl : DE (List S)} {ρ : DL.Env} {g g1 : G} (hf : fl ρ g = .ok [.d b, .d e, .d l, .d a, .d le, .d mo, .d st] g1) :
    frzD (makeC A.Summary (phi_Summary___init__ A) fl) ρ g = .ok (.d (.ins A.Summary (flS b e l a le mo st))) (g1 ++ [.dead]) := by
  have i := sum_init A b e l a le mo st (g1 ++ [.ins A.Summary []]) g1.length (by simp)
  rw [app_set, app_set] at i
  simp only [frzD, makeC, hf, makeF, i, R.bind_ok]
  rw [take_app1]
  simp only [R.bind_ok, app_get, snapC, app_set]
theorem fS_begin (s : Sm) (g : G) : fldS A.Summary "begin" (.d (dS A s)) g = .ok (.d (endD s.n s.b)) g := by
  show (if A.Summary = A.Summary then _ else _) = _
  rw [if_pos rfl]; rfl
theorem fS_end (s : Sm) (g : G) : fldS A.Summary "end" (.d (dS A s)) g = .ok (.d (endD s.n s.e)) g := by
  show (if A.Summary = A.Summary then _ else _) = _
  rw [if_pos rfl]; rfl
theorem fS_length (s : Sm) (g : G) : fldS A.Summary "length" (.d (dS A s)) g = .ok (.d (.int s.n)) g := by
  show (if A.Summary = A.Summary then _ else _) = _
  rw [if_pos rfl]; rfl
theorem fS_added (s : Sm) (g : G) : fldS A.Summary "added" (.d (dS A s)) g = .ok (.d (tI s.ad)) g := by
  show (if A.Summary = A.Summary then _ else _) = _
  rw [if_pos rfl]; rfl
theorem fS_least (s : Sm) (g : G) : fldS A.Summary "least" (.d (dS A s)) g = .ok (.d (tI s.le)) g := by
  show (if A.Summary = A.Summary then _ else _) = _
  rw [if_pos rfl]; rfl
theorem fS_most (s : Sm) (g : G) : fldS A.Summary "most" (.d (dS A s)) g = .ok (.d (tI s.mo)) g := by
  show (if A.Summary = A.Summary then _ else _) = _
  rw [if_pos rfl]; rfl
theorem fS_stands (s : Sm) (g : G) : fldS A.Summary "stands" (.d (dS A s)) g = .ok (.d (tI s.st)) g := by
  show (if A.Summary = A.Summary then _ else _) = _
  rw [if_pos rfl]; rfl
end
/-- pairs and triples of a zip -/
def en2 (p : Int × Int) : D := .tup [.int p.1, .int p.2]
def en3 (p : Int × Int × Int) : D := .tup [.int p.1, .int p.2.1, .int p.2.2]
theorem zip2_ints : ∀ xs ys : List Int, zip2D (xs.map .int) (ys.map .int) = (xs.zip ys).map en2
  | [], ys => by simp [zip2D]
  | x :: xs, [] => by simp [zip2D]
  | x :: xs, y :: ys => by simp [zip2D, zip2_ints xs ys, en2]
theorem zip3_ints : ∀ xs ys zs : List Int, zip3D (xs.map .int) (ys.map .int) (zs.map .int) = (xs.zip (ys.zip zs)).map en3
  | [], ys, zs => by simp [zip3D]
  | x :: xs, [], zs => by simp [zip3D]
  | x :: xs, y :: ys, [] => by simp [zip3D]
  | x :: xs, y :: ys, z :: zs => by simp [zip3D, zip3_ints xs ys zs, en3]
def zip2W (f : Int → Int → Int) (xs ys : List Int) : List Int := (xs.zip ys).map fun p => f p.1 p.2
def zip3W (f : Int → Int → Int → Int) (xs ys zs : List Int) : List Int := (xs.zip (ys.zip zs)).map fun p => f p.1 p.2.1 p.2.2
end SH
/-! SH: functions that many laws share. -/
namespace SH
open PySem PySem.Spec DL
noncomputable def d_determinant_c1e (A : Ad) (psi : DF) : DE S :=
  bin2 (slD (varD 5) (noO) (someO (varD 2))) (slD (varD 5) (someO (bin2 (varD 2) (cD (.int 1)) addS)) (noO)) addS
noncomputable def d_determinant_c1 (A : Ad) (psi : DF) : DE S :=
  compD (seqI (slD (varD 0) (someO (cD (.int 1))) (noO))) [5] (nameG 5) (yesB) (d_determinant_c1e A psi)
noncomputable def d_determinant_b3 (A : Ad) (psi : DF) : DS :=
  seqS (asgS 4 (d_determinant_c1 A psi)) (augS 1 (bin2 (bin2 (varD 3) (callD psi (consL (varD 4) (nilL))) mulS) (ifD (asB (bin2 (bin2 (varD 2) (cD (.int 2)) (opD modD)) (cD (.int 0)) (opD eqD))) (cD (.int 1)) (un1D negS (cD (.int 1)))) mulS) (opD addD))
noncomputable def d_determinant (A : Ad) (psi : DF) : DS :=
  seqS (ifS (asB (bin2 (cbD (un1 lenD) (consL (varD 0) (nilL))) (cD (.int 0)) (opD eqD))) (retS (cD (.int 1))) (nextS)) (seqS (asgS 1 (cD (.int 0))) (seqS (forS (enumI (consL (bin2 (varD 0) (cD (.int 0)) ixS) (nilL))) (tupG 2 (consG (nameG 2) (consG (nameG 3) (nilG)))) (d_determinant_b3 A psi)) (retS (varD 1))))
noncomputable def phi_determinant (A : Ad) : DF := recD (fun psi => defD 6 (d_determinant A psi)) 6
noncomputable def d_dot_c1e (A : Ad) : DE S :=
  bin2 (varD 2) (varD 3) mulS
noncomputable def d_dot_c1 (A : Ad) : DE S :=
  compD (zipI2 (consL (varD 0) (consL (varD 1) (nilL)))) [2, 3] (tupG 2 (consG (nameG 2) (consG (nameG 3) (nilG)))) (yesB) (d_dot_c1e A)
noncomputable def d_dot (A : Ad) : DS :=
  retS (cbD (un1 sumD) (consL (d_dot_c1 A) (nilL)))
noncomputable def phi_dot (A : Ad) : DF := defD 4 (d_dot A)
noncomputable def d_turned_c1e (A : Ad) : DE S :=
  callD (phi_are_integers A) (consL (varD 7) (consL (varD 2) (nilL)))
noncomputable def d_turned_c1 (A : Ad) : DE S :=
  compD (seqI (varD 1)) [7] (nameG 7) (yesB) (d_turned_c1e A)
noncomputable def d_turned_c3e (A : Ad) : DE S :=
  callD (phi_dot A) (consL (varD 7) (consL (varD 6) (nilL)))
noncomputable def d_turned_c3 (A : Ad) : DE S :=
  compD (seqI (varD 1)) [7] (nameG 7) (yesB) (d_turned_c3e A)
noncomputable def d_turned_b5 (A : Ad) : DS :=
  exprS (mthL appS (varD 3) (consL (tupD (consL (varD 4) (consL (varD 5) (consL (cbD (tupC) (consL (d_turned_c3 A) (nilL))) (nilL))))) (nilL)))
noncomputable def d_turned (A : Ad) : DS :=
  seqS (asgS 2 (un1D (fldS A.Program "sides") (varD 0))) (seqS (ifS (orB (notB (asB (cbD (isiS A.isC) (consL (varD 1) (consL (cD (.typ "tuple")) (nilL)))))) (orB (asB (bin2 (cbD (un1 lenD) (consL (varD 1) (nilL))) (varD 2) (opD neD))) (notB (asB (cbD (un1 allF) (consL (d_turned_c1 A) (nilL))))))) (raise0 A.NoMatrix) (nextS)) (seqS (ifS (asB (bin2 (callD (phi_determinant A) (consL (varD 1) (nilL))) (tupD (consL (cD (.int 1)) (consL (un1D negS (cD (.int 1))) (nilL)))) (inF true))) (raise0 A.NoMatrix) (nextS)) (seqS (asgS 3 (celD (nilL))) (seqS (forS (seqI (un1D (fldS A.Program "readings") (varD 0))) (tupG 3 (consG (nameG 4) (consG (nameG 5) (consG (nameG 6) (nilG))))) (d_turned_b5 A)) (retS (callD (phi_program_of A) (consL (varD 2) (consL (un1D (fldS A.Program "tables") (varD 0)) (consL (varD 3) (nilL))))))))))
noncomputable def phi_turned (A : Ad) : DF := defD 8 (d_turned A)
noncomputable def d_check_number (A : Ad) : DS :=
  ifS (notB (asB (callD (phi_is_within A) (consL (varD 0) (consL (varD 1) (consL (varD 2) (nilL))))))) (raise0 A.NoNumber) (nextS)
noncomputable def phi_check_number (A : Ad) : DF := defD 3 (d_check_number A)
noncomputable def d_stretched_c1e (A : Ad) : DE S :=
  bin2 (varD 1) (varD 6) mulS
noncomputable def d_stretched_c1 (A : Ad) : DE S :=
  compD (seqI (varD 5)) [6] (nameG 6) (yesB) (d_stretched_c1e A)
noncomputable def d_stretched_b3 (A : Ad) : DS :=
  exprS (mthL appS (varD 2) (consL (tupD (consL (varD 3) (consL (varD 4) (consL (cbD (tupC) (consL (d_stretched_c1 A) (nilL))) (nilL))))) (nilL)))
noncomputable def d_stretched (A : Ad) : DS :=
  seqS (exprS (callD (phi_check_number A) (consL (varD 1) (consL (cD (.int 1)) (consL (cD (.int 1000000000000)) (nilL)))))) (seqS (asgS 2 (celD (nilL))) (seqS (forS (seqI (un1D (fldS A.Program "readings") (varD 0))) (tupG 3 (consG (nameG 3) (consG (nameG 4) (consG (nameG 5) (nilG))))) (d_stretched_b3 A)) (retS (callD (phi_program_of A) (consL (un1D (fldS A.Program "sides") (varD 0)) (consL (un1D (fldS A.Program "tables") (varD 0)) (consL (varD 2) (nilL))))))))
noncomputable def phi_stretched (A : Ad) : DF := defD 7 (d_stretched A)
end SH
namespace SH
open PySem PySem.Spec DL DLS PySem.W
open L2 hiding keyOf
/-! ### rows, plain -/
abbrev Mat := List (List Int)
def dotL (r v : List Int) : Int := ((r.zip v).map fun p => p.1 * p.2).sum
def act (M : Mat) (v : List Int) : List Int := M.map fun r => dotL r v
abbrev Dg := Nat × Nat × Int
def doneM (M : Mat) (d : Dg) : Mat :=
  if d.1 = d.2.1 then M.set d.1 ((M.getD d.1 []).map fun x => -x)
  else if d.2.2 = 0 then (M.set d.1 (M.getD d.2.1 [])).set d.2.1 (M.getD d.1 [])
  else M.set d.1 ((List.range M.length).map fun p => (M.getD d.1 []).getD p 0 + d.2.2 * (M.getD d.2.1 []).getD p 0)
def doneV (v : List Int) (d : Dg) : List Int :=
  if d.1 = d.2.1 then v.set d.1 (-(v.getD d.1 0))
  else if d.2.2 = 0 then (v.set d.1 (v.getD d.2.1 0)).set d.2.1 (v.getD d.1 0)
  else v.set d.1 (v.getD d.1 0 + d.2.2 * v.getD d.2.1 0)
def plainM (k : Nat) : Mat := (List.range k).map fun i => (List.range k).map fun j => if i = j then 1 else 0
structure SqM (k : Nat) (M : Mat) : Prop where
  l : M.length = k
  r : ∀ x ∈ M, x.length = k
def OkD (k : Nat) (d : Dg) : Prop := d.1 < k ∧ d.2.1 < k
theorem dot_nil (v : List Int) : dotL [] v = 0 := rfl
theorem dot_cons (x : Int) (r : List Int) (y : Int) (v : List Int) : dotL (x :: r) (y :: v) = x * y + dotL r v := by
  unfold dotL; simp
theorem dot_neg : ∀ (r v : List Int), dotL (r.map fun x => -x) v = -dotL r v
  | [], v => rfl
  | x :: r, [] => by simp [dotL]
  | x :: r, y :: v => by
    rw [List.map_cons, dot_cons, dot_cons, dot_neg r v]
    grind
theorem dot_comb (c : Int) : ∀ (r s v : List Int), r.length = v.length → s.length = v.length → dotL (List.zipWith (fun x y => x + c * y) r s) v = dotL r v + c * dotL s v
  | [], s, v, h1, h2 => by
    have : v = [] := List.eq_nil_of_length_eq_zero h1.symm
    subst this
    have : s = [] := List.eq_nil_of_length_eq_zero h2
    subst this
    simp [dotL]
  | x :: r, [], v, h1, h2 => by
    have : v = [] := List.eq_nil_of_length_eq_zero h2.symm
    subst this
    simp at h1
  | x :: r, y :: s, [], h1, h2 => by simp at h1
  | x :: r, y :: s, z :: v, h1, h2 => by
    rw [List.zipWith_cons_cons, dot_cons, dot_cons, dot_cons, dot_comb c r s v (by simpa using h1) (by simpa using h2)]
    grind
theorem comb_zip (c : Int) (r s : List Int) {k : Nat} (h1 : r.length = k) (h2 : s.length = k) : ((List.range k).map fun p => r.getD p 0 + c * s.getD p 0) = List.zipWith (fun x y => x + c * y) r s := by
  apply List.ext_getElem
  · simp [h1, h2]
  · intro i a b
    simp at a
    have l1 : i < r.length := by omega
    have l2 : i < s.length := by omega
    simp [List.getElem?_eq_getElem l1, List.getElem?_eq_getElem l2]
theorem getD_mem' {M : Mat} {i : Nat} (h : i < M.length) : M.getD i [] ∈ M := by
  rw [List.getD_eq_getElem?_getD, List.getElem?_eq_getElem h]
  exact List.getElem_mem h
theorem sq_done {k : Nat} {M : Mat} (h : SqM k M) {d : Dg} (hd : OkD k d) : SqM k (doneM M d) := by
  obtain ⟨a, b, c⟩ := d
  obtain ⟨h1, h2⟩ := hd
  dsimp only at h1 h2
  have ra := h.r _ (getD_mem' (M := M) (i := a) (by rw [h.l]; exact h1))
  have rb := h.r _ (getD_mem' (M := M) (i := b) (by rw [h.l]; exact h2))
  have hl := h.l
  unfold doneM
  dsimp only
  split
  · refine ⟨by simp [hl], fun x hx => ?_⟩
    rcases List.mem_or_eq_of_mem_set hx with hx | rfl
    · exact h.r x hx
    · rw [List.length_map]; exact ra
  · split
    · refine ⟨by simp [hl], fun x hx => ?_⟩
      rcases List.mem_or_eq_of_mem_set hx with hx | rfl
      · rcases List.mem_or_eq_of_mem_set hx with hx | rfl
        · exact h.r x hx
        · exact rb
      · exact ra
    · refine ⟨by simp [hl], fun x hx => ?_⟩
      rcases List.mem_or_eq_of_mem_set hx with hx | rfl
      · exact h.r x hx
      · simp [hl]
theorem getD_act {M : Mat} {v : List Int} {i : Nat} (h : i < M.length) : (act M v).getD i 0 = dotL (M.getD i []) v := by
  unfold act
  rw [List.getD_eq_getElem?_getD, List.getElem?_map, List.getElem?_eq_getElem h, List.getD_eq_getElem?_getD, List.getElem?_eq_getElem h]
  rfl
theorem act_done {k : Nat} {M : Mat} (h : SqM k M) {d : Dg} (hd : OkD k d) {v : List Int} (hv : v.length = k) : act (doneM M d) v = doneV (act M v) d := by
  obtain ⟨a, b, c⟩ := d
  obtain ⟨h1, h2⟩ := hd
  dsimp only at h1 h2
  have la : a < M.length := by rw [h.l]; exact h1
  have lb : b < M.length := by rw [h.l]; exact h2
  have ra := h.r _ (getD_mem' la)
  have rb := h.r _ (getD_mem' lb)
  have ga := getD_act (v := v) la
  have gb := getD_act (v := v) lb
  unfold doneM doneV
  dsimp only
  rw [ga, gb]
  split
  · unfold act
    rw [List.map_set, dot_neg]
  · split
    · unfold act
      rw [List.map_set, List.map_set]
    · unfold act
      rw [List.map_set, h.l, comb_zip c _ _ ra rb, dot_comb c _ _ v (by omega) (by omega)]
theorem act_len (M : Mat) (v : List Int) : (act M v).length = M.length := by unfold act; rw [List.length_map]
theorem done_back {v : List Int} {d : Dg} (h1 : d.1 < v.length) (h2 : d.2.1 < v.length) : doneV (doneV v d) (d.1, d.2.1, -d.2.2) = v := by
  obtain ⟨a, b, c⟩ := d
  dsimp only at h1 h2
  apply List.ext_getElem?
  intro i
  have hva : v.getD a 0 = v[a] := by rw [List.getD_eq_getElem?_getD, List.getElem?_eq_getElem h1]; rfl
  have hvb : v.getD b 0 = v[b] := by rw [List.getD_eq_getElem?_getD, List.getElem?_eq_getElem h2]; rfl
  unfold doneV
  dsimp only
  by_cases e : a = b
  · subst e
    rw [if_pos rfl, if_pos rfl]
    by_cases hi : a = i
    · subst hi
      simp [List.getElem?_set, h1, hva]
    · simp [List.getElem?_set, hi]
  · rw [if_neg e]
    by_cases ec : c = 0
    · subst ec
      rw [if_pos rfl, if_neg e, if_pos (by decide)]
      by_cases hi : b = i
      · subst hi
        have e2 : ((v.set a v[b]).set b v[a]).getD a 0 = v[b] := by
          rw [List.getD_eq_getElem?_getD, List.getElem?_set_ne (Ne.symm e), List.getElem?_set_self h1]; rfl
        rw [hva, hvb, e2, List.getElem?_set_self (by simp [h2]), List.getElem?_eq_getElem h2]
      · by_cases hj : a = i
        · subst hj
          simp [List.getElem?_set, h1, h2, hva, hvb, hi]
        · simp [List.getElem?_set, hi, hj]
    · rw [if_neg ec, if_neg e, if_neg (by omega)]
      have eb : (v.set a (v.getD a 0 + c * v.getD b 0)).getD b 0 = v[b] := by
        rw [List.getD_eq_getElem?_getD, List.getElem?_set_ne e, List.getElem?_eq_getElem h2]; rfl
      have ea : (v.set a (v.getD a 0 + c * v.getD b 0)).getD a 0 = v[a] + c * v[b] := by
        rw [List.getD_eq_getElem?_getD, List.getElem?_set_self h1, hva, hvb]; rfl
      rw [eb, ea, List.set_set]
      by_cases hi : a = i
      · subst hi
        rw [List.getElem?_set_self h1, List.getElem?_eq_getElem h1]
        congr 1
        grind
      · rw [List.getElem?_set_ne hi]
theorem done_len (v : List Int) (d : Dg) : (doneV v d).length = v.length := by
  unfold doneV
  split
  · simp
  · split <;> simp
def foldV (v : List Int) (ds : List Dg) : List Int := ds.foldl doneV v
def foldM (M : Mat) (ds : List Dg) : Mat := ds.foldl doneM M
def contra (ds : List Dg) : List Dg := ds.reverse.map fun d => (d.1, d.2.1, -d.2.2)
theorem fold_back : ∀ (ds : List Dg) (v : List Int), (∀ d ∈ ds, OkD v.length d) → foldV (foldV v ds) (contra ds) = v
  | [], v, _ => rfl
  | d :: ds, v, h => by
    have hd := h d List.mem_cons_self
    have ih := fold_back ds (doneV v d) fun e he => by
      rw [done_len]; exact h e (List.mem_cons_of_mem _ he)
    unfold contra
    rw [List.reverse_cons, List.map_append]
    show foldV (foldV (doneV v d) ds) (contra ds ++ [_]) = v
    unfold foldV at ih ⊢
    rw [List.foldl_append, ih]
    exact done_back hd.1 hd.2
theorem sq_fold {k : Nat} : ∀ (ds : List Dg) {M : Mat}, SqM k M → (∀ d ∈ ds, OkD k d) → SqM k (foldM M ds)
  | [], M, h, _ => h
  | d :: ds, M, h, hd => sq_fold ds (sq_done h (hd d List.mem_cons_self)) fun e he => hd e (List.mem_cons_of_mem _ he)
theorem act_fold {k : Nat} {v : List Int} (hv : v.length = k) : ∀ (ds : List Dg) {M : Mat}, SqM k M → (∀ d ∈ ds, OkD k d) → act (foldM M ds) v = foldV (act M v) ds
  | [], M, h, _ => rfl
  | d :: ds, M, h, hd => by
    show act (foldM (doneM M d) ds) v = foldV (doneV (act M v) d) ds
    rw [act_fold hv ds (sq_done h (hd d List.mem_cons_self)) fun e he => hd e (List.mem_cons_of_mem _ he), act_done h (hd d List.mem_cons_self) hv]
theorem sq_plain (k : Nat) : SqM k (plainM k) := by
  refine ⟨by simp [plainM], fun x hx => ?_⟩
  unfold plainM at hx
  obtain ⟨i, _, rfl⟩ := List.mem_map.mp hx
  simp
theorem act_plain {v : List Int} {k : Nat} (hv : v.length = k) (hk : k ≤ 4) : act (plainM k) v = v := by
  subst hv
  match v, hk with
  | [], _ => rfl
  | [a], _ => simp [plainM, act, dotL, List.range_succ]
  | [a, b], _ => simp [plainM, act, dotL, List.range_succ]
  | [a, b, c], _ => simp [plainM, act, dotL, List.range_succ]
  | [a, b, c, d], _ => simp [plainM, act, dotL, List.range_succ]
  | _ :: _ :: _ :: _ :: _ :: _, h => simp at h
end SH
namespace SH
open PySem PySem.Spec DL DLS PySem.W
open L2 hiding keyOf
def dropAt (p : Nat) (r : List Int) : List Int := r.take p ++ r.drop (p + 1)
def sgn (p : Nat) : Int := if p % 2 = 0 then 1 else -1
/-- the determinant of n rows, along the first one -/
def detN : Nat → Mat → Int
  | 0, _ => 1
  | n + 1, M => (List.range (M.headD []).length).foldl (fun acc p => acc + (M.headD []).getD p 0 * detN n (M.tail.map (dropAt p)) * sgn p) 0
theorem len1 {α : Type} {l : List α} (h : l.length = 1) : ∃ a, l = [a] := by
  match l, h with
  | [a], _ => exact ⟨a, rfl⟩
theorem len2 {α : Type} {l : List α} (h : l.length = 2) : ∃ a b, l = [a, b] := by
  match l, h with
  | [a, b], _ => exact ⟨a, b, rfl⟩
theorem len3 {α : Type} {l : List α} (h : l.length = 3) : ∃ a b c, l = [a, b, c] := by
  match l, h with
  | [a, b, c], _ => exact ⟨a, b, c, rfl⟩
theorem len4 {α : Type} {l : List α} (h : l.length = 4) : ∃ a b c d, l = [a, b, c, d] := by
  match l, h with
  | [a, b, c, d], _ => exact ⟨a, b, c, d, rfl⟩
def d2 (a b c d : Int) : Int := a * d - b * c
def d3 (a b c d e f g h i : Int) : Int := a * d2 e f h i - b * d2 d f g i + c * d2 d e g h
def d4 (a1 a2 a3 a4 b1 b2 b3 b4 c1 c2 c3 c4 e1 e2 e3 e4 : Int) : Int := a1 * d3 b2 b3 b4 c2 c3 c4 e2 e3 e4 - a2 * d3 b1 b3 b4 c1 c3 c4 e1 e3 e4 + a3 * d3 b1 b2 b4 c1 c2 c4 e1 e2 e4 - a4 * d3 b1 b2 b3 c1 c2 c3 e1 e2 e3
theorem det1 (a : Int) : detN 1 [[a]] = a := by
  simp [detN, List.range_succ, sgn]
theorem det2 (a b c d : Int) : detN 2 [[a, b], [c, d]] = d2 a b c d := by
  have e : detN 2 [[a, b], [c, d]] = 0 + a * detN 1 [[d]] * sgn 0 + b * detN 1 [[c]] * sgn 1 := by
    rw [detN]
    simp [List.range_succ, dropAt]
  rw [e, det1, det1]
  unfold d2 sgn
  simp
  grind
theorem det3 (a b c d e f g h i : Int) : detN 3 [[a, b, c], [d, e, f], [g, h, i]] = d3 a b c d e f g h i := by
  have z : detN 3 [[a, b, c], [d, e, f], [g, h, i]] = 0 + a * detN 2 [[e, f], [h, i]] * sgn 0 + b * detN 2 [[d, f], [g, i]] * sgn 1 + c * detN 2 [[d, e], [g, h]] * sgn 2 := by
    rw [detN]
    simp [List.range_succ, dropAt]
  rw [z, det2, det2, det2]
  unfold d3 sgn
  simp
  grind
theorem det4 (a1 a2 a3 a4 b1 b2 b3 b4 c1 c2 c3 c4 e1 e2 e3 e4 : Int) : detN 4 [[a1, a2, a3, a4], [b1, b2, b3, b4], [c1, c2, c3, c4], [e1, e2, e3, e4]] = d4 a1 a2 a3 a4 b1 b2 b3 b4 c1 c2 c3 c4 e1 e2 e3 e4 := by
  have z : detN 4 [[a1, a2, a3, a4], [b1, b2, b3, b4], [c1, c2, c3, c4], [e1, e2, e3, e4]] = 0 + a1 * detN 3 [[b2, b3, b4], [c2, c3, c4], [e2, e3, e4]] * sgn 0 + a2 * detN 3 [[b1, b3, b4], [c1, c3, c4], [e1, e3, e4]] * sgn 1 + a3 * detN 3 [[b1, b2, b4], [c1, c2, c4], [e1, e2, e4]] * sgn 2 + a4 * detN 3 [[b1, b2, b3], [c1, c2, c3], [e1, e2, e3]] * sgn 3 := by
    rw [detN]
    simp [List.range_succ, dropAt]
  rw [z, det3, det3, det3, det3]
  unfold d4 sgn
  simp
  grind
abbrev SameUp (x y : Int) : Prop := x = y ∨ x = -y
theorem det_done1 {M : Mat} (h : SqM 1 M) {d : Dg} (hd : OkD 1 d) : SameUp (detN 1 (doneM M d)) (detN 1 M) := by
  obtain ⟨r, rfl⟩ := len1 h.l
  obtain ⟨a, rfl⟩ := len1 (h.r r (by simp))
  obtain ⟨i, j, c⟩ := d
  obtain ⟨h1, h2⟩ := hd
  dsimp only at h1 h2
  have : i = 0 := by omega
  have : j = 0 := by omega
  subst i; subst j
  simp only [doneM]
  simp [det1]
  exact .inr rfl
theorem det_done2 {M : Mat} (h : SqM 2 M) {d : Dg} (hd : OkD 2 d) : SameUp (detN 2 (doneM M d)) (detN 2 M) := by
  obtain ⟨r, s, rfl⟩ := len2 h.l
  obtain ⟨a, b, rfl⟩ := len2 (h.r r (by simp))
  obtain ⟨a', b', rfl⟩ := len2 (h.r s (by simp))
  obtain ⟨i, j, c⟩ := d
  obtain ⟨h1, h2⟩ := hd
  dsimp only at h1 h2
  have hi : i = 0 ∨ i = 1 := by omega
  have hj : j = 0 ∨ j = 1 := by omega
  by_cases hc : c = 0 <;> rcases hi with rfl | rfl <;> rcases hj with rfl | rfl <;> simp [doneM, hc, List.range_succ, det2] <;> unfold d2 <;> grind
theorem det_done3 {M : Mat} (h : SqM 3 M) {d : Dg} (hd : OkD 3 d) : SameUp (detN 3 (doneM M d)) (detN 3 M) := by
  obtain ⟨r, s, t, rfl⟩ := len3 h.l
  obtain ⟨a, b, c, rfl⟩ := len3 (h.r r (by simp))
  obtain ⟨a', b', c', rfl⟩ := len3 (h.r s (by simp))
  obtain ⟨a2, b2, c2, rfl⟩ := len3 (h.r t (by simp))
  obtain ⟨i, j, e⟩ := d
  obtain ⟨h1, h2⟩ := hd
  dsimp only at h1 h2
  have hi : i = 0 ∨ i = 1 ∨ i = 2 := by omega
  have hj : j = 0 ∨ j = 1 ∨ j = 2 := by omega
  by_cases hc : e = 0 <;> rcases hi with rfl | rfl | rfl <;> rcases hj with rfl | rfl | rfl <;> simp [doneM, hc, List.range_succ, det3] <;> unfold d3 d2 <;> grind
theorem det_done4 {M : Mat} (h : SqM 4 M) {d : Dg} (hd : OkD 4 d) : SameUp (detN 4 (doneM M d)) (detN 4 M) := by
  obtain ⟨r, s, t, u, rfl⟩ := len4 h.l
  obtain ⟨a, b, c, f, rfl⟩ := len4 (h.r r (by simp))
  obtain ⟨a', b', c', f', rfl⟩ := len4 (h.r s (by simp))
  obtain ⟨a2, b2, c2, f2, rfl⟩ := len4 (h.r t (by simp))
  obtain ⟨a3, b3, c3, f3, rfl⟩ := len4 (h.r u (by simp))
  obtain ⟨i, j, e⟩ := d
  obtain ⟨h1, h2⟩ := hd
  dsimp only at h1 h2
  have hi : i = 0 ∨ i = 1 ∨ i = 2 ∨ i = 3 := by omega
  have hj : j = 0 ∨ j = 1 ∨ j = 2 ∨ j = 3 := by omega
  by_cases hc : e = 0 <;> rcases hi with rfl | rfl | rfl | rfl <;> rcases hj with rfl | rfl | rfl | rfl <;> simp [doneM, hc, List.range_succ, det4] <;> unfold d4 d3 d2 <;> grind
theorem det_done {k : Nat} (h1 : 1 ≤ k) (h4 : k ≤ 4) {M : Mat} (h : SqM k M) {d : Dg} (hd : OkD k d) : SameUp (detN k (doneM M d)) (detN k M) := by
  have hk : k = 1 ∨ k = 2 ∨ k = 3 ∨ k = 4 := by omega
  rcases hk with rfl | rfl | rfl | rfl
  · exact det_done1 h hd
  · exact det_done2 h hd
  · exact det_done3 h hd
  · exact det_done4 h hd
theorem det_plain {k : Nat} (h1 : 1 ≤ k) (h4 : k ≤ 4) : detN k (plainM k) = 1 := by
  have hk : k = 1 ∨ k = 2 ∨ k = 3 ∨ k = 4 := by omega
  rcases hk with rfl | rfl | rfl | rfl <;> rfl
theorem det_fold {k : Nat} (h1 : 1 ≤ k) (h4 : k ≤ 4) : ∀ (ds : List Dg) {M : Mat}, SqM k M → (∀ d ∈ ds, OkD k d) → SameUp (detN k (foldM M ds)) (detN k M)
  | [], M, _, _ => .inl rfl
  | d :: ds, M, h, hd => by
    have a := det_fold h1 h4 ds (sq_done h (hd d List.mem_cons_self)) fun e he => hd e (List.mem_cons_of_mem _ he)
    have b := det_done h1 h4 h (hd d List.mem_cons_self)
    show SameUp (detN k (foldM (doneM M d) ds)) _
    unfold SameUp at *
    omega
theorem det_made {k : Nat} (h1 : 1 ≤ k) (h4 : k ≤ 4) {ds : List Dg} (hd : ∀ d ∈ ds, OkD k d) : detN k (foldM (plainM k) ds) = 1 ∨ detN k (foldM (plainM k) ds) = -1 := by
  have := det_fold h1 h4 ds (sq_plain k) hd
  rw [det_plain h1 h4] at this
  exact this
end SH
namespace SH
open PySem PySem.Spec DL DLS PySem.W
open L2 hiding keyOf
def Bv (n : Nat) (v : List Int) : Prop := ∀ x ∈ v, x.natAbs < 2 ^ n
def BM (n : Nat) (M : Mat) : Prop := ∀ r ∈ M, Bv n r
theorem Bv.mono {n m : Nat} {v : List Int} (h : Bv n v) (hm : n ≤ m) : Bv m v := fun x hx => Nat.lt_of_lt_of_le (h x hx) (Nat.pow_le_pow_right (by decide) hm)
theorem BM.mono {n m : Nat} {M : Mat} (h : BM n M) (hm : n ≤ m) : BM m M := fun r hr => (h r hr).mono hm
theorem mul_bd {x y : Int} {a b : Nat} (h1 : x.natAbs < 2 ^ a) (h2 : y.natAbs < 2 ^ b) : (x * y).natAbs ≤ 2 ^ (a + b) := by
  rw [Int.natAbs_mul, Nat.pow_add]
  exact Nat.mul_le_mul (Nat.le_of_lt h1) (Nat.le_of_lt h2)
theorem mulS_bd {x y : Int} {a b : Nat} (h1 : x.natAbs < 2 ^ a) (h2 : y.natAbs < 2 ^ b) (h : a + b < 1000000) (g : G) : mulS (.d (.int x)) (.d (.int y)) g = .ok (.d (.int (x * y))) g := mulS_int _ _ _ (lg_mul h1 h2 h)
theorem dot_bd {a b : Nat} : ∀ {r v : List Int}, Bv a r → Bv b v → (dotL r v).natAbs ≤ r.length * 2 ^ (a + b)
  | [], v, _, _ => by simp [dotL]
  | x :: r, [], _, _ => by simp [dotL]
  | x :: r, y :: v, h1, h2 => by
    rw [dot_cons]
    have := dot_bd (fun z hz => h1 z (List.mem_cons_of_mem _ hz)) (fun z hz => h2 z (List.mem_cons_of_mem _ hz)) (r := r) (v := v)
    have m := mul_bd (h1 x List.mem_cons_self) (h2 y List.mem_cons_self)
    have := Int.natAbs_add_le (x * y) (dotL r v)
    rw [List.length_cons, Nat.add_mul, Nat.one_mul]
    omega
theorem four_bd {n c : Nat} (h : c ≤ 4 * 2 ^ n) : c < 2 ^ (n + 3) := by
  have : 0 < 2 ^ n := Nat.pow_pos (by decide)
  rw [Nat.pow_add]
  omega
theorem act_bd {a b : Nat} {M : Mat} {v : List Int} (h1 : BM a M) (h2 : Bv b v) (hl : ∀ r ∈ M, r.length ≤ 4) : Bv (a + b + 3) (act M v) := fun x hx => by
  obtain ⟨r, hr, rfl⟩ := List.mem_map.mp hx
  have := dot_bd (h1 r hr) h2
  have := Nat.mul_le_mul_right (2 ^ (a + b)) (hl r hr)
  exact four_bd (by omega)
theorem getD_bd {n : Nat} {v : List Int} (h : Bv n v) (i : Nat) : (v.getD i 0).natAbs < 2 ^ n := by
  rw [List.getD_eq_getElem?_getD]
  cases q : v[i]? with
  | none => exact Nat.pow_pos (by decide)
  | some x => exact h x (List.mem_of_getElem? q)
theorem row_bd {n : Nat} {M : Mat} (h : BM n M) (i : Nat) : Bv n (M.getD i []) := by
  rw [List.getD_eq_getElem?_getD]
  cases q : M[i]? with
  | none => exact fun x hx => by cases hx
  | some r => exact h r (List.mem_of_getElem? q)
theorem done_bd {n : Nat} {M : Mat} (h : BM n M) {d : Dg} (hd : d.2.2.natAbs < 2 ^ 20) : BM (n + 21) (doneM M d) := by
  have up : ∀ {v : List Int}, Bv n v → Bv (n + 21) v := fun h => h.mono (by omega)
  unfold doneM
  split
  · intro r hr
    rcases List.mem_or_eq_of_mem_set hr with hr | rfl
    · exact up (h r hr)
    · intro x hx
      obtain ⟨y, hy, rfl⟩ := List.mem_map.mp hx
      rw [Int.natAbs_neg]
      exact up (row_bd h _) y hy
  · split
    · intro r hr
      rcases List.mem_or_eq_of_mem_set hr with hr | rfl
      · rcases List.mem_or_eq_of_mem_set hr with hr | rfl
        · exact up (h r hr)
        · exact up (row_bd h _)
      · exact up (row_bd h _)
    · intro r hr
      rcases List.mem_or_eq_of_mem_set hr with hr | rfl
      · exact up (h r hr)
      · intro x hx
        obtain ⟨p, _, rfl⟩ := List.mem_map.mp hx
        have b1 := getD_bd (row_bd h d.1) p
        have b2 := mul_bd hd (getD_bd (row_bd h d.2.1) p)
        have := Int.natAbs_add_le ((M.getD d.1 []).getD p 0) (d.2.2 * (M.getD d.2.1 []).getD p 0)
        have e : 2 ^ (20 + n) = 2 ^ 20 * 2 ^ n := Nat.pow_add ..
        have e2 : 2 ^ (n + 21) = 2 ^ n * 2 ^ 21 := Nat.pow_add ..
        have pos : 0 < 2 ^ n := Nat.pow_pos (by decide)
        rw [e] at b2
        rw [e2]
        omega
theorem fold_bd : ∀ (ds : List Dg) {n : Nat} {M : Mat}, BM n M → (∀ d ∈ ds, d.2.2.natAbs < 2 ^ 20) → BM (n + 21 * ds.length) (foldM M ds)
  | [], n, M, h, _ => h
  | d :: ds, n, M, h, hd => by
    have := fold_bd ds (done_bd h (hd d List.mem_cons_self)) fun e he => hd e (List.mem_cons_of_mem _ he)
    exact this.mono (by rw [List.length_cons]; omega)
theorem plain_bd (k : Nat) : BM 1 (plainM k) := fun r hr x hx => by
  unfold plainM at hr
  obtain ⟨i, _, rfl⟩ := List.mem_map.mp hr
  obtain ⟨j, _, rfl⟩ := List.mem_map.mp hx
  split <;> decide
/-! ### the determinant's size -/
theorem drop_bd {n : Nat} {r : List Int} (h : Bv n r) (p : Nat) : Bv n (dropAt p r) := fun x hx => by
  rcases List.mem_append.mp hx with hx | hx
  · exact h x (List.mem_of_mem_take hx)
  · exact h x (List.mem_of_mem_drop hx)
theorem drop_len {r : List Int} {c : Nat} (h : r.length ≤ c) (p : Nat) : (dropAt p r).length ≤ c := by
  unfold dropAt
  rw [List.length_append, List.length_take, List.length_drop]
  omega
theorem fold_le {f : Nat → Int} {B : Nat} : ∀ (ps : List Nat) (acc : Int), (∀ p ∈ ps, (f p).natAbs ≤ B) → (ps.foldl (fun a p => a + f p) acc).natAbs ≤ acc.natAbs + ps.length * B
  | [], acc, _ => by simp
  | p :: ps, acc, h => by
    have := fold_le ps (acc + f p) fun q hq => h q (List.mem_cons_of_mem _ hq)
    have a := Int.natAbs_add_le acc (f p)
    have b := h p List.mem_cons_self
    rw [List.foldl_cons, List.length_cons, Nat.add_mul, Nat.one_mul]
    omega
theorem sgn_abs (p : Nat) : (sgn p).natAbs = 1 := by
  unfold sgn
  split <;> rfl
theorem det_bd {b : Nat} : ∀ (n : Nat) {M : Mat}, BM b M → (∀ r ∈ M, r.length ≤ 4) → (detN n M).natAbs < 2 ^ (n * (b + 3) + 1)
  | 0, M, _, _ => by show (1 : Int).natAbs < _; simp
  | n + 1, M, h, hl => by
    have head : Bv b (M.headD []) ∧ (M.headD []).length ≤ 4 := by
      cases M with
      | nil => exact ⟨(fun x hx => by cases hx), by simp⟩
      | cons r M => exact ⟨h r List.mem_cons_self, hl r List.mem_cons_self⟩
    have rest : ∀ p, BM b (M.tail.map (dropAt p)) ∧ ∀ r ∈ M.tail.map (dropAt p), r.length ≤ 4 := fun p => ⟨fun r hr => by
      obtain ⟨q, hq, rfl⟩ := List.mem_map.mp hr
      exact drop_bd (h q (List.mem_of_mem_tail hq)) p, fun r hr => by
      obtain ⟨q, hq, rfl⟩ := List.mem_map.mp hr
      exact drop_len (hl q (List.mem_of_mem_tail hq)) p⟩
    have each : ∀ p ∈ List.range (M.headD []).length, ((M.headD []).getD p 0 * detN n (M.tail.map (dropAt p)) * sgn p).natAbs ≤ 2 ^ (b + (n * (b + 3) + 1)) := fun p _ => by
      rw [Int.natAbs_mul, sgn_abs, Nat.mul_one]
      exact mul_bd (getD_bd head.1 p) (det_bd n (rest p).1 (rest p).2)
    have := fold_le _ 0 each
    unfold detN
    rw [List.length_range] at this
    have four := Nat.mul_le_mul_right (2 ^ (b + (n * (b + 3) + 1))) head.2
    have := four_bd (n := b + (n * (b + 3) + 1)) (c := ((List.range (M.headD []).length).foldl (fun acc p => acc + (M.headD []).getD p 0 * detN n (M.tail.map (dropAt p)) * sgn p) 0).natAbs) (by rw [Int.natAbs_zero, Nat.zero_add] at this; omega)
    refine Nat.lt_of_lt_of_le this (Nat.pow_le_pow_right (by decide) ?_)
    rw [Nat.add_mul]
    omega
end SH
namespace SH
open PySem PySem.Spec DL DLS PySem.W
open L2 hiding keyOf
theorem pairs_range (r : List Int) : ∀ (k : Nat), pairsD k (r.map D.int) = (List.range r.length).map fun p => D.tup [.int ((k + p : Nat) : Int), .int (r.getD p 0)] := by
  induction r with
  | nil => intro k; rfl
  | cons x r ih =>
    intro k
    rw [List.map_cons, pairsD, ih (k + 1), List.length_cons, List.range_succ_eq_map, List.map_cons, List.map_map]
    congr 1
    refine List.map_congr_left fun p _ => ?_
    show D.tup [.int ((k + 1 + p : Nat) : Int), .int (r.getD p 0)] = D.tup [.int ((k + (p + 1) : Nat) : Int), .int ((x :: r).getD (p + 1) 0)]
    congr 3
    omega
section
variable (A : Ad)
theorem dot_eq {a b : Nat} {r v : List Int} (h1 : Bv a r) (h2 : Bv b v) (hab : a + b < 1000000) (hl : r.length ≤ 1000) (g : G) : phi_dot A [.d (tI r), .d (tI v)] g = .ok (.d (.int (dotL r v))) g := by
  refine defD_rt0 ?_
  unfold d_dot
  have e : d_dot_c1 A [some (.d (tI r)), some (.d (tI v)), none, none] g = .ok (.d (.lst (((r.zip v).map fun p => p.1 * p.2).map D.int))) g := by
    have := compD_T (it := zipI2 (consL (varD 0) (consL (varD 1) (nilL)))) (vs := [2, 3]) (h := tupG 2 (consG (nameG 2) (consG (nameG 3) (nilG)))) (t := yesB) (el := d_dot_c1e A) (ρ := [some (.d (tI r)), some (.d (tI v)), none, none]) (g := g) (g1 := g) (as := r.zip v) en2 (fun p => D.int (p.1 * p.2)) (by simp [zipI2, zip2_ints]) (fun p hp acc => by
      have hx := h1 p.1 (List.of_mem_zip hp).1
      have hy := h2 p.2 (List.of_mem_zip hp).2
      exact ⟨_, rfl, rfl, by
        have := mulS_bd hx hy hab (g ++ [Cell.lst acc])
        simp [d_dot_c1e, this]⟩) (by rw [List.length_zip]; omega)
    rw [List.map_map]
    exact this
  exact ret_go (by simp [-List.map_map, e, sumD, dotL])
def rowsD (t : Bool) (M : Mat) : D := if t then .tup (M.map tI) else .lst (M.map tI)
theorem sgn_eq (p : Nat) : (if (p : Int).fmod 2 = 0 then (1 : Int) else -1) = sgn p := by
  unfold sgn
  have e : (p : Int).fmod 2 = ((p % 2 : Nat) : Int) := by
    rw [Int.fmod_eq_emod_of_nonneg _ (by decide)]
    omega
  rw [e]
  by_cases h : p % 2 = 0
  · rw [if_pos h, if_pos (by omega)]
  · rw [if_neg h, if_neg (by omega)]
theorem drop_eq {r : List Int} (hl : r.length ≤ 1000) (p : Nat) (x0 x1 x3 x4 : Option S) (g : G) : d_determinant_c1e A (fun _ _ => .bad) [x0, x1, some (.d (.int p)), x3, x4, some (.d (tI r))] g = .ok (.d (tI (dropAt p r))) g := by
  have s1 : slD (varD 5) noO (someO (varD 2)) [x0, x1, some (.d (.int p)), x3, x4, some (.d (tI r))] g = .ok (.d (.tup ((r.map D.int).take p))) g := by
    simp [slD, cutL_take]
  have s2 : slD (varD 5) (someO (bin2 (varD 2) (cD (.int 1)) addS)) noO [x0, x1, some (.d (.int p)), x3, x4, some (.d (tI r))] g = .ok (.d (.tup ((r.map D.int).drop (p + 1)))) g := by
    have c := cutL_drop (r.map D.int) (v := (p : Int) + 1) (by omega)
    rw [show ((p : Int) + 1).toNat = p + 1 by omega] at c
    simp [-List.map_drop, slD, c]
  have s3 := add_tup ((r.map D.int).take p) ((r.map D.int).drop (p + 1)) g (by rw [List.length_take, List.length_drop, List.length_map]; omega)
  unfold d_determinant_c1e dropAt tI
  rw [List.map_append, List.map_take, List.map_drop]
  generalize (r.map D.int).take p = u1 at *
  generalize (r.map D.int).drop (p + 1) = u2 at *
  simp only [bin2] at s1 s2 ⊢
  rw [s1]
  simp only [R.bind_ok]
  rw [s2]
  simp only [R.bind_ok]
  exact s3
def stepD (M : Mat) (r0 : List Int) (n : Nat) (acc : Int) (p : Nat) : Int := acc + r0.getD p 0 * detN n (M.map (dropAt p)) * sgn p
theorem det_step {b n : Nat} {t : Bool} {M : Mat} {r0 : List Int} (psi : DF) (hpsi : ∀ p g, psi [.d (.lst ((M.map (dropAt p)).map tI))] g = .ok (.d (.int (detN n (M.map (dropAt p))))) g) (h0 : Bv b r0) (hd : ∀ p, (detN n (M.map (dropAt p))).natAbs < 2 ^ 5000) (hb : b ≤ 5000) (hM : M.length ≤ 1000) (hr : ∀ r ∈ M, r.length ≤ 1000)
    (acc : Int) (p : Nat) (y4 y5 : Option S) (g : G) :
    ∃ z4, d_determinant_b3 A psi [some (.d (rowsD t (r0 :: M))), some (.d (.int acc)), some (.d (.int p)), some (.d (.int (r0.getD p 0))), y4, none] g = .nx [some (.d (rowsD t (r0 :: M))), some (.d (.int (stepD M r0 n acc p))), some (.d (.int p)), some (.d (.int (r0.getD p 0))), z4, none] g := by
  have tail : seqI (slD (varD 0) (someO (cD (.int 1))) (noO)) [some (.d (rowsD t (r0 :: M))), some (.d (.int acc)), some (.d (.int p)), some (.d (.int (r0.getD p 0))), y4, none] g = .ok (M.map tI) g := by
    have c := cutL_drop ((r0 :: M).map tI) (v := 1) (by decide)
    have c2 : cutL ((r0 :: M).map tI) (some 1) none = M.map tI := c
    unfold rowsD
    cases t
    · simp only [seqI, slD, varD, List.getElem?_cons_zero, R.bind_ok, someO, cD, noO, readLL_lst]
      simp [-List.map_cons, readLL, readL, itemsD, c2]
    · simp [-List.map_cons, slD, itemsD, c2]
  have c1 : d_determinant_c1 A psi [some (.d (rowsD t (r0 :: M))), some (.d (.int acc)), some (.d (.int p)), some (.d (.int (r0.getD p 0))), y4, none] g = .ok (.d (.lst ((M.map (dropAt p)).map tI))) g := by
    rw [List.map_map]
    exact compD_T tI (fun r => tI (dropAt p r)) (g1 := g) tail (fun r hr' acc2 => ⟨_, rfl, rfl, drop_eq A (hr r hr') p _ _ _ _ _⟩) (by omega)
  have m1 := fun g => mulS_bd (getD_bd h0 p) (hd p) (by omega) g
  have m2 : ∀ g, mulS (.d (.int (r0.getD p 0 * detN n (M.map (dropAt p))))) (.d (.int (sgn p))) g = .ok (.d (.int (r0.getD p 0 * detN n (M.map (dropAt p)) * sgn p))) g := fun g => by
    refine mulS_bd (a := b + 5000 + 1) (b := 1) (Nat.lt_of_le_of_lt (mul_bd (getD_bd h0 p) (hd p)) (Nat.pow_lt_pow_right (by decide) (by omega))) (by rw [sgn_abs]; decide) (by omega) g
  have hp := hpsi p
  unfold d_determinant_b3 stepD
  generalize rowsD t (r0 :: M) = RW0 at *
  generalize hx : r0.getD p 0 = x at *
  generalize hdd : detN n (M.map (dropAt p)) = dd at *
  generalize (M.map (dropAt p)).map tI = L at *
  refine ⟨some (.d (.lst L)), ?_⟩
  refine (seq_go (asg_go c1)).trans ?_
  have sg : ifD (asB (bin2 (bin2 (varD 2) (cD (.int 2)) (opD modD)) (cD (.int 0)) (opD eqD))) (cD (.int 1)) (un1D negS (cD (.int 1))) [some (.d RW0), some (.d (.int acc)), some (.d (.int p)), some (.d (.int x)), some (.d (.lst L)), none] g = .ok (.d (.int (sgn p))) g := by
    rw [← sgn_eq p]
    unfold ifD
    by_cases q : (p : Int).fmod 2 = 0 <;> simp [q, negS]
  unfold augS
  simp only [List.set, List.getElem?_cons_succ, List.getElem?_cons_zero]
  simp only [bin2, varD, List.getElem?_cons_succ, List.getElem?_cons_zero, R.bind_ok, callD, consL, nilL, hp, m1, sg, m2, R.toO_ok, opD, snap_d, addD_i]
theorem det_eq {b : Nat} (hb : b ≤ 1000) : ∀ (n : Nat) (M : Mat), M.length = n → n ≤ 4 → BM b M → (∀ r ∈ M, r.length ≤ 4) → ∀ f, n < f → ∀ (t : Bool) (g : G), recD (fun psi => defD 6 (d_determinant A psi)) f [.d (rowsD t M)] g = .ok (.d (.int (detN n M))) g
  | 0, M, hl, _, _, _, f, hf, t, g => by
    obtain ⟨f, rfl⟩ : ∃ k, f = k + 1 := ⟨f - 1, by omega⟩
    have : M = [] := List.eq_nil_of_length_eq_zero hl
    subst this
    show defD 6 (d_determinant A (recD _ f)) _ _ = _
    refine defD_rt0 ?_
    unfold d_determinant
    refine seq_rt (g1 := g) ?_ (ret_go rfl)
    cases t <;> simp [rowsD]
  | n + 1, M, hl, hn, hM, hr, f, hf, t, g => by
    obtain ⟨f, rfl⟩ : ∃ k, f = k + 1 := ⟨f - 1, by omega⟩
    show defD 6 (d_determinant A (recD _ f)) _ _ = _
    match M, hl, hM, hr with
    | r0 :: M, hl, hM, hr =>
      have hl' : M.length = n := by simpa using hl
      have rest : ∀ p, BM b (M.map (dropAt p)) ∧ ∀ r ∈ M.map (dropAt p), r.length ≤ 4 := fun p => ⟨fun r hr2 => by
        obtain ⟨q, hq, rfl⟩ := List.mem_map.mp hr2
        exact drop_bd (hM q (List.mem_cons_of_mem _ hq)) p, fun r hr2 => by
        obtain ⟨q, hq, rfl⟩ := List.mem_map.mp hr2
        exact drop_len (hr q (List.mem_cons_of_mem _ hq)) p⟩
      have ih : ∀ p g, recD (fun psi => defD 6 (d_determinant A psi)) f [.d (.lst ((M.map (dropAt p)).map tI))] g = .ok (.d (.int (detN n (M.map (dropAt p))))) g := fun p g =>
        det_eq hb n (M.map (dropAt p)) (by rw [List.length_map]; exact hl') (by omega) (rest p).1 (rest p).2 f (by omega) false g
      have hd : ∀ p, (detN n (M.map (dropAt p))).natAbs < 2 ^ 5000 := fun p => Nat.lt_of_lt_of_le (det_bd n (rest p).1 (rest p).2) (Nat.pow_le_pow_right (by decide) (by
        have : n * (b + 3) ≤ 4 * 1003 := Nat.mul_le_mul (by omega) (by omega)
        omega))
      generalize recD (fun psi => defD 6 (d_determinant A psi)) f = psi at ih
      refine defD_rt0 ?_
      have h0 := hM r0 List.mem_cons_self
      have l0 := hr r0 List.mem_cons_self
      obtain ⟨ρ2, g2, e2, rfl, y2, y3, y4, rfl⟩ := loopS_T (fun p : Nat => D.tup [.int p, .int (r0.getD p 0)]) (tupG 2 (consG (nameG 2) (consG (nameG 3) (nilG)))) (d_determinant_b3 A psi)
        (fun dn ρ g' => g' = g ∧ ∃ y2 y3 y4, ρ = [some (.d (rowsD t (r0 :: M))), some (.d (.int (dn.foldl (stepD M r0 n) 0))), y2, y3, y4, none]) 1000 (List.range r0.length) [] [some (.d (rowsD t (r0 :: M))), some (.d (.int 0)), none, none, none, none] g (by simp; omega) ⟨rfl, _, _, _, rfl⟩
        (fun p hp dn ρ g' _ ⟨e1, y2, y3, y4, e3⟩ => by
          subst e1; subst e3
          obtain ⟨z4, st⟩ := det_step A (t := t) psi ih h0 hd (by omega) (by omega) (fun r hr2 => by have := hr r (List.mem_cons_of_mem _ hr2); omega) (dn.foldl (stepD M r0 n) 0) p y4 none g'
          exact ⟨[some (.d (rowsD t (r0 :: M))), some (.d (.int (dn.foldl (stepD M r0 n) 0))), some (.d (.int p)), some (.d (.int (r0.getD p 0))), y4, none], _, g', rfl, st, rfl, some (.d (.int p)), some (.d (.int (r0.getD p 0))), z4, by rw [List.foldl_append]; rfl⟩)
      have ix : ixS (.d (rowsD t (r0 :: M))) (.d (.int 0)) g2 = .ok (.d (tI r0)) g2 := by
        unfold rowsD
        cases t
        · exact ix_lst tI (r0 :: M) (i := 0) (by decide) (by simp) g2
        · exact ix_tup tI (r0 :: M) (i := 0) (by decide) (by simp) g2
      have it : enumI (consL (bin2 (varD 0) (cD (.int 0)) ixS) (nilL)) [some (.d (rowsD t (r0 :: M))), some (.d (.int 0)), none, none, none, none] g2 = .ok ((List.range r0.length).map fun p : Nat => D.tup [.int p, .int (r0.getD p 0)]) g2 := by
        have pr := pairs_range r0 0
        simp only [Nat.zero_add] at pr
        rw [← pr]
        unfold enumI
        simp [ix, itemsD]
      have fin : detN (n + 1) (r0 :: M) = (List.range r0.length).foldl (stepD M r0 n) 0 := rfl
      unfold d_determinant
      have tst : asB (bin2 (cbD (un1 lenD) (consL (varD 0) (nilL))) (cD (.int 0)) (opD eqD)) [some (.d (rowsD t (r0 :: M))), none, none, none, none, none] g2 = .ok false g2 := by
        have z : ¬ ((M.length : Int) + 1 = 0) := by omega
        unfold rowsD
        cases t <;> simp [z]
      refine (seq_skip tst).trans ?_
      refine (seq_go (asg_go (s := .d (.int 0)) (g' := g2) (by simp))).trans ?_
      refine (seq_go (for_go it e2)).trans ?_
      rw [fin, List.nil_append]
      exact ret_go (by simp)
end
end SH
namespace SH
open PySem PySem.Spec DL DLS PySem.W
open L2 hiding keyOf
def trR (M : Mat) (r : Rd) : Rd := (r.1, r.2.1, act M r.2.2)
def stR (t : Int) (r : Rd) : Rd := (r.1, r.2.1, r.2.2.map fun x => t * x)
/-- a loop that gathers readings in a list -/
theorem gather {slots : Nat × Nat × Nat} {body : DS} (f : Rd → Rd) (mk : Option S → Option S → Option S → DL.Env) (g : G) (rs : List Rd) (hl : rs.length ≤ 1000)
    (hset : ∀ x y z a b c, (((mk x y z).set slots.1 (some a)).set slots.2.1 (some b)).set slots.2.2 (some c) = mk (some a) (some b) (some c))
    (hb : ∀ r ∈ rs, ∀ acc : List D, acc.length ≤ 1000 → body (mk (some (.d (.int r.1))) (some (.d (.int r.2.1))) (some (.d (tI r.2.2)))) (g ++ [.lst acc]) = .nx (mk (some (.d (.int r.1))) (some (.d (.int r.2.1))) (some (.d (tI r.2.2)))) (g ++ [.lst (acc ++ [dR (f r)])])) (x0 y0 z0 : Option S) :
    ∃ x y z, loopS (tupG 3 (consG (nameG slots.1) (consG (nameG slots.2.1) (consG (nameG slots.2.2) nilG)))) body (rs.map dR) (mk x0 y0 z0) (g ++ [.lst []]) = .nx (mk x y z) (g ++ [.lst (rs.map fun r => dR (f r))]) := by
  obtain ⟨ρ2, g2, e, rfl, x, y, z, rfl⟩ := loopS_T dR (tupG 3 (consG (nameG slots.1) (consG (nameG slots.2.1) (consG (nameG slots.2.2) nilG)))) body
    (fun dn ρ g' => g' = g ++ [.lst (dn.map fun r => dR (f r))] ∧ ∃ x y z, ρ = mk x y z) 1000 rs [] (mk x0 y0 z0) (g ++ [.lst []]) (by simpa using hl) ⟨rfl, x0, y0, z0, rfl⟩ (fun r hr dn ρ g' hN ⟨e1, x, y, z, e2⟩ => by
      subst e1; subst e2
      refine ⟨mk (some (.d (.int r.1))) (some (.d (.int r.2.1))) (some (.d (tI r.2.2))), _, _, ?_, hb r hr (dn.map fun r => dR (f r)) (by rw [List.length_map]; omega), by rw [List.map_append]; rfl, _, _, _, rfl⟩
      rw [tup3_h, hset])
  exact ⟨x, y, z, e⟩
section
variable (A : Ad)
theorem app_body {g : G} {acc : List D} {x : D} {fl : DE (List S)} {fo : DE S} {ρ : DL.Env} (ho : fo ρ (g ++ [.lst acc]) = .ok (.c g.length) (g ++ [.lst acc])) (hx : fl ρ (g ++ [.lst acc]) = .ok [.d x] (g ++ [.lst acc])) (hl : acc.length ≤ 1000) :
    exprS (mthL appS fo fl) ρ (g ++ [.lst acc]) = .nx ρ (g ++ [.lst (acc ++ [x])]) := by
  have rl := rl_app (g := g) (ds := acc)
  have ap := app_ok (g := g) (acc := acc) (x := x) (by omega)
  unfold exprS mthL
  rw [ho]
  simp only [R.bind_ok, rl]
  rw [hx]
  simp only [R.bind_ok, ap]
  rfl
structure UseM (k : Nat) (b : Nat) (rs : List Rd) : Prop where
  few : rs.length < 64
  len : ∀ r ∈ rs, r.2.2.length = k
  bd : ∀ r ∈ rs, Bv b r.2.2
theorem turned_eq {k : Nat} {m : Int} {rs : List Rd} {M : Mat} {a b : Nat} (hk : 1 ≤ k) (hk4 : k ≤ 4) (hM : SqM k M) (bM : BM a M) (ha : a ≤ 1000) (hb : b ≤ 1000) (u : UseM k b rs) (hd : detN k M = 1 ∨ detN k M = -1) (g : G) :
    phi_turned A [.d (dP A k m rs), .d (.tup (M.map tI))] g = .ok (.d (dP A k m (sortR (rs.map (trR M))))) g := by
  have det : phi_determinant A [.d (.tup (M.map tI))] g = .ok (.d (.int (detN k M))) g := det_eq A ha k M hM.l hk4 bM (fun r hr => by rw [hM.r r hr]; exact hk4) 6 (by omega) true g
  have c1 : ∀ y3 y4 y5 y6, d_turned_c1 A [some (.d (dP A k m rs)), some (.d (.tup (M.map tI))), some (.d (.int k)), y3, y4, y5, y6, none] g = .ok (.d (.lst (M.map fun _ => D.bl true))) g := fun y3 y4 y5 y6 =>
    compD_T tI (fun _ => D.bl true) (g1 := g) (by simp) (fun r hr acc => ⟨_, rfl, rfl, by
      have := are_integers_t A (is := r) (by rw [hM.r r hr]; omega) (g ++ [Cell.lst acc])
      rw [hM.r r hr] at this
      simp [d_turned_c1e, this]⟩) (by rw [hM.l]; omega)
  have c3 : ∀ r ∈ rs, ∀ acc, d_turned_c3 A [some (.d (dP A k m rs)), some (.d (.tup (M.map tI))), some (.d (.int k)), some (.c g.length), some (.d (.int r.1)), some (.d (.int r.2.1)), some (.d (tI r.2.2)), none] (g ++ [.lst acc]) = .ok (.d (.lst (M.map fun row => D.int (dotL row r.2.2)))) (g ++ [.lst acc]) := fun r hr acc =>
    compD_T tI (fun row => D.int (dotL row r.2.2)) (g1 := g ++ [Cell.lst acc]) (by simp) (fun row hrow acc2 => ⟨_, rfl, rfl, by
      have := dot_eq A (bM row hrow) (u.bd r hr) (by omega) (by rw [hM.r row hrow]; omega) (g ++ [Cell.lst acc] ++ [Cell.lst acc2])
      generalize (g ++ [Cell.lst acc] ++ [Cell.lst acc2]) = gg at *
      simp [d_turned_c3e, this]⟩) (by rw [hM.l]; omega)
  obtain ⟨x, y, z, lp⟩ := gather (slots := (4, 5, 6)) (body := d_turned_b5 A) (trR M) (fun x y z => [some (.d (dP A k m rs)), some (.d (.tup (M.map tI))), some (.d (.int k)), some (.c g.length), x, y, z, none]) g rs (by have := u.few; omega) (fun _ _ _ _ _ _ => rfl) (fun r hr acc hacc => by
    have e := c3 r hr acc
    unfold d_turned_b5
    refine app_body (by simp) ?_ hacc
    have er : dR (trR M r) = .tup [.int r.1, .int r.2.1, .tup (M.map fun row => D.int (dotL row r.2.2))] := by
      unfold dR trR act
      rw [List.map_map]; rfl
    rw [er]
    generalize (M.map fun row => D.int (dotL row r.2.2)) = u3 at *
    simp [e, tupC, rd1]) none none none
  have po := program_of_eq A (k := k) (m := m) (rs := rs.map (trR M)) (by rw [List.length_map]; exact u.few) (s := .c g.length) (g := g ++ [.lst (rs.map fun r => dR (trR M r))]) (by rw [rl_app, List.map_map]; rfl)
  refine (defD_rt (N := 8) (g' := g ++ [.lst (rs.map fun r => dR (trR M r))]) (s := .d (dP A k m (sortR (rs.map (trR M))))) ?_).trans (by unfold finD; dsimp only; rw [app_take])
  have at1 := all_true M
  have inv : inF true (.d (.int (detN k M))) (.d (.tup [.int 1, .int (-1)])) g = .ok (.d (.bl false)) g := by
    rcases hd with e | e <;> rw [e] <;> rfl
  unfold d_turned
  refine (seq_go (asg_go (s := .d (.int k)) (g' := g) (by simp [-fldS, fld_sides]))).trans ?_
  refine (seq_skip (by
    have z1 := c1 none none none none
    generalize (M.map fun _ => D.bl true) = bs at *
    simp [z1, at1, hM.l])).trans ?_
  refine (seq_skip (by
    generalize M.map tI = mt at *
    generalize detN k M = dt at *
    simp [det, negS, inv])).trans ?_
  refine (seq_go (asg_go (s := .c g.length) (g' := g ++ [Cell.lst []]) (by simp))).trans ?_
  refine (seq_go (for_go (g1 := g ++ [Cell.lst []]) (ds := rs.map dR) (by simp [-fldS, fld_readings]) lp)).trans ?_
  generalize (g ++ [Cell.lst (rs.map fun r => dR (trR M r))]) = gg at *
  exact ret_go (by simp [-fldS, fld_tables, po])
theorem stretched_eq {k : Nat} {m : Int} {rs : List Rd} {t : Int} {b : Nat} (h1 : 1 ≤ t) (h2 : t ≤ 1000000000000) (hb : b ≤ 1000) (hk4 : k ≤ 4) (u : UseM k b rs) (g : G) :
    phi_stretched A [.d (dP A k m rs), .d (.int t)] g = .ok (.d (dP A k m (sortR (rs.map (stR t))))) g := by
  have ck : phi_check_number A [.d (.int t), .d (.int 1), .d (.int 1000000000000)] g = .ok (.d .non) g := by
    have w := is_within_i A (i := t) (lo := 1) (hi := 1000000000000) h1 h2 g
    unfold phi_check_number defD
    have e : d_check_number A [some (.d (.int t)), some (.d (.int 1)), some (.d (.int 1000000000000))] g = .nx [some (.d (.int t)), some (.d (.int 1)), some (.d (.int 1000000000000))] g := by
      unfold d_check_number
      simp [w]
    simp only [List.map_cons, List.map_nil, List.length_cons, List.length_nil, Nat.sub_self, List.replicate, List.append_nil]
    rw [e]
    simp
  have tb : t.natAbs < 2 ^ 41 := by omega
  have c1 : ∀ r ∈ rs, ∀ acc, d_stretched_c1 A [some (.d (dP A k m rs)), some (.d (.int t)), some (.c g.length), some (.d (.int r.1)), some (.d (.int r.2.1)), some (.d (tI r.2.2)), none] (g ++ [.lst acc]) = .ok (.d (.lst (r.2.2.map fun x => D.int (t * x)))) (g ++ [.lst acc]) := fun r hr acc =>
    compD_T D.int (fun x => D.int (t * x)) (g1 := g ++ [Cell.lst acc]) (by simp) (fun x hx acc2 => ⟨_, rfl, rfl, by
      have := mulS_bd tb (u.bd r hr x hx) (by omega) (g ++ [Cell.lst acc] ++ [Cell.lst acc2])
      generalize (g ++ [Cell.lst acc] ++ [Cell.lst acc2]) = gg at *
      simp [d_stretched_c1e, this]⟩) (by rw [u.len r hr]; omega)
  obtain ⟨x, y, z, lp⟩ := gather (slots := (3, 4, 5)) (body := d_stretched_b3 A) (stR t) (fun x y z => [some (.d (dP A k m rs)), some (.d (.int t)), some (.c g.length), x, y, z, none]) g rs (by have := u.few; omega) (fun _ _ _ _ _ _ => rfl) (fun r hr acc hacc => by
    have e := c1 r hr acc
    unfold d_stretched_b3
    refine app_body (by simp) ?_ hacc
    have er : dR (stR t r) = .tup [.int r.1, .int r.2.1, .tup (r.2.2.map fun x => D.int (t * x))] := by
      unfold dR stR
      rw [List.map_map]; rfl
    rw [er]
    generalize (r.2.2.map fun x => D.int (t * x)) = u3 at *
    simp [e, tupC, rd1]) none none none
  have po := program_of_eq A (k := k) (m := m) (rs := rs.map (stR t)) (by rw [List.length_map]; exact u.few) (s := .c g.length) (g := g ++ [.lst (rs.map fun r => dR (stR t r))]) (by rw [rl_app, List.map_map]; rfl)
  refine (defD_rt (N := 7) (g' := g ++ [.lst (rs.map fun r => dR (stR t r))]) (s := .d (dP A k m (sortR (rs.map (stR t))))) ?_).trans (by unfold finD; dsimp only; rw [app_take])
  unfold d_stretched
  refine (seq_go (ρ' := [some (.d (dP A k m rs)), some (.d (.int t)), none, none, none, none, none]) (g' := g) (by simp [ck])).trans ?_
  refine (seq_go (asg_go (s := .c g.length) (g' := g ++ [Cell.lst []]) (by simp))).trans ?_
  refine (seq_go (for_go (g1 := g ++ [Cell.lst []]) (ds := rs.map dR) (by simp [-fldS, fld_readings]) lp)).trans ?_
  generalize (g ++ [Cell.lst (rs.map fun r => dR (stR t r))]) = gg at *
  exact ret_go (by simp [-fldS, fld_tables, fld_sides, po])
end
end SH
namespace SH
open PySem PySem.Spec DL DLS PySem.W
open L2 hiding keyOf
theorem if_yes {t : DE Bool} {a b : DS} {ρ : DL.Env} {g g1 : G} (h : t ρ g = .ok true g1) : ifS t a b ρ g = a ρ g1 := by
  show ((t ρ g).toO ρ fun (c : Bool) g1 => if c then a ρ g1 else b ρ g1) = _
  rw [h]
  rfl
theorem if_no {t : DE Bool} {a b : DS} {ρ : DL.Env} {g g1 : G} (h : t ρ g = .ok false g1) : ifS t a b ρ g = b ρ g1 := by
  show ((t ρ g).toO ρ fun (c : Bool) g1 => if c then a ρ g1 else b ρ g1) = _
  rw [h]
  rfl
theorem compC_T {α : Type} {it : DE (List D)} {vs : List Nat} {h : DG} {t : DE Bool} {el : DE S} {ρ : DL.Env} {g g1 : G} {as : List α} (en f : α → D) (hi : it ρ g = .ok (as.map en) g1)
    (hs : ∀ a ∈ as, ∀ acc, ∃ ρ1, h (.d (en a)) (wipeE ρ vs) = some ρ1 ∧ t ρ1 (g1 ++ [.lst acc]) = .ok true (g1 ++ [.lst acc]) ∧ el ρ1 (g1 ++ [.lst acc]) = .ok (.d (f a)) (g1 ++ [.lst acc])) (hl : as.length ≤ 10000000) :
    compC it vs h t el ρ g = .ok (.c g1.length) (g1 ++ [.lst (as.map f)]) := by
  unfold compC
  rw [hi]
  dsimp only [R.bind_ok]
  rw [compL_T en f h t el (wipeE ρ vs) g1 as [] hs (by simpa using hl)]
  dsimp only
  rw [app_get]
  dsimp only
  rw [take_app1]
  rfl
/-- l[i] = v, l the last cell -/
theorem put_last {g : G} {ds : List D} {i : Nat} {x : D} {fo fi fv : DE S} {ρ : DL.Env} (hi : i < ds.length) (hv : fv ρ (g ++ [.lst ds]) = .ok (.d x) (g ++ [.lst ds])) (ho : fo ρ (g ++ [.lst ds]) = .ok (.c g.length) (g ++ [.lst ds])) (hx : fi ρ (g ++ [.lst ds]) = .ok (.d (.int i)) (g ++ [.lst ds])) :
    putSt fo fi fv ρ (g ++ [.lst ds]) = .nx ρ (g ++ [.lst (ds.set i x)]) := by
  unfold putSt
  rw [hv]
  simp only [R.toO_ok]
  rw [ho]
  simp only [R.toO_ok]
  rw [hx]
  simp only [R.toO_ok]
  have e : putS (.d x) (.c g.length) (.d (.int i)) (g ++ [.lst ds]) = some (g ++ [.lst (ds.set i x)]) := by
    unfold putS
    dsimp only
    rw [app_get]
    dsimp only
    have ix : ixN ds.length (i : Int) = some i := by
      unfold ixN
      rw [if_pos (by omega), if_pos (by omega), Int.toNat_natCast]
    rw [ix]
    dsimp only
    rw [app_set]
  rw [e]
theorem rangeL_nn (n : Nat) : rangeL 0 (n : Int) = (List.range n).map fun j : Nat => D.int j := by
  unfold rangeL
  rw [Int.sub_zero, Int.toNat_natCast]
  exact List.map_congr_left fun i _ => by simp
abbrev lI (r : List Int) : D := .lst (r.map .int)
abbrev mL (M : Mat) : D := .lst (M.map lI)
def dD (d : Dg) : D := .tup [.int d.1, .int d.2.1, .int d.2.2]
theorem led_sum : ∀ (r v : List Int), r.length = v.length → ((List.range v.length).map fun p => r.getD p 0 * v.getD p 0).sum = dotL r v
  | [], [], _ => rfl
  | x :: r, y :: v, h => by
    rw [dot_cons, ← led_sum r v (by simpa using h), List.length_cons, List.range_succ_eq_map, List.map_cons, List.map_map, List.sum_cons]
    rfl
theorem setD_map {α : Type} (f : α → D) (l : List α) (i : Nat) (x : α) : (l.map f).set i (f x) = (l.set i x).map f := (List.map_set ..).symm
end SH
namespace Lk03
open PySem PySem.Spec DL DLS SH
open L2 hiding keyOf
def sh (A : Lk03.Ad) : SH.Ad where
  Program := A.Program
  BadProgram := A.BadProgram
  Task := A.Program
  BadTask := A.Program
  TurnError := A.Program
  NoNames := A.Program
  NoMatrix := A.NoMatrix
  NoNumber := A.NoNumber
  NoLot := A.Program
  NoReading := A.Program
  OtherSides := A.Program
  BadText := A.Program
  NoLog := A.Program
  NoTable := A.Program
  TooMany := A.Program
  NoWorld := A.Program
  NoBox := A.Program
  NoPoint := A.Program
  NotWorking := A.Program
  NothingDone := A.Program
  NoName := A.Program
  NoLine := A.Program
  Summary := A.Program
  isC := isC A
section
variable (A : Lk03.Ad)
theorem hC : (sh A).isC (sh A).Program = true := by
  show decide (A.Program = A.Program) = true
  simp
theorem e_pool : phi__law_pool A = poolF := rfl
theorem e_draw : phi__law_draw A = drawF := rfl
theorem e_some : phi__law_some A = SH.phi__law_some (sh A) := rfl
theorem e_parts : phi__law_parts A = SH.phi__law_parts (sh A) := rfl
theorem e_program : phi__law_program A = SH.phi__law_program (sh A) := rfl
theorem e_is : phi__law_is A = SH.phi__law_is (sh A) := rfl
theorem e_turned : phi_turned A = SH.phi_turned (sh A) := rfl
theorem e_stretched : phi_stretched A = SH.phi_stretched (sh A) := rfl
theorem e_sorted : phi__law_sorted_parts A = SH.phi__law_sorted_parts (sh A) := rfl
theorem e_eq : phi_Program___eq__ A = SH.phi_Program___eq__ (sh A) := rfl
theorem plain_eq {k : Nat} (hk : k ≤ 1000) (g : G) : phi__law_plain_matrix A [.d (.int k)] g = .ok (.d (mL (plainM k))) g := by
  refine defD_rt0 ?_
  unfold d__law_plain_matrix
  refine ret_go ?_
  have e : mL (plainM k) = .lst ((List.range k).map fun i => lI ((List.range k).map fun j => if i = j then 1 else 0)) := by
    unfold mL plainM
    rw [List.map_map]; rfl
  rw [e]
  refine compD_T (fun i : Nat => D.int i) (fun i => lI ((List.range k).map fun j => if i = j then 1 else 0)) (g1 := g) ?_ (fun i hi acc => ⟨_, rfl, rfl, ?_⟩) (by rw [List.length_range]; omega)
  · rw [← rangeL_nn]
    exact range1_at (by simp) (inR_le (by omega) (by omega))
  · have e2 : lI ((List.range k).map fun j => if i = j then (1 : Int) else 0) = .lst ((List.range k).map fun j => D.int (if i = j then 1 else 0)) := by
      unfold lI
      rw [List.map_map]; rfl
    rw [e2]
    refine compD_T (fun j : Nat => D.int j) (fun j => D.int (if i = j then 1 else 0)) (g1 := g ++ [Cell.lst acc]) ?_ (fun j hj acc2 => ⟨_, rfl, rfl, ?_⟩) (by rw [List.length_range]; omega)
    · rw [← rangeL_nn]
      exact range1_at (by simp) (inR_le (by omega) (by omega))
    · by_cases q : i = j
      · subst q; simp [d__law_plain_matrix_c1e]
      · have q2 : ¬ ((i : Int) = (j : Int)) := by omega
        simp [d__law_plain_matrix_c1e, q, q2]
theorem law_done_eq {k n : Nat} {M : Mat} (hM : SqM k M) (bM : BM n M) (hn : n ≤ 1000) (hk : k ≤ 1000) {d : Dg} (hd : OkD k d) (hc : d.2.2.natAbs < 2 ^ 20) (g : G) : phi__law_done A [.d (mL M), .d (dD d)] g = .ok (.d (mL (doneM M d))) g := by
  obtain ⟨a, b, c⟩ := d
  obtain ⟨h1, h2⟩ := hd
  dsimp only at h1 h2 hc
  have la : a < M.length := by rw [hM.l]; exact h1
  have lb : b < M.length := by rw [hM.l]; exact h2
  have ra := hM.r _ (getD_mem' la)
  have rb := hM.r _ (getD_mem' lb)
  have ixa : ∀ g, ixS (.d (mL M)) (.d (.int a)) g = .ok (.d (lI (M.getD a []))) g := fun g => by
    have := ix_lst lI M (i := (a : Int)) (by omega) (by omega) g
    rw [Int.toNat_natCast] at this
    exact this
  have ixb : ∀ g, ixS (.d (mL M)) (.d (.int b)) g = .ok (.d (lI (M.getD b []))) g := fun g => by
    have := ix_lst lI M (i := (b : Int)) (by omega) (by omega) g
    rw [Int.toNat_natCast] at this
    exact this
  have ba := row_bd bM a
  have bb := row_bd bM b
  have c1 : d__law_done_c1 A [some (.d (mL M)), some (.d (dD (a, b, c))), none, some (.d (.int a)), some (.d (.int b)), some (.d (.int c)), none, none, none] g = .ok (.c g.length) (g ++ [.lst (M.map lI)]) :=
    compC_T lI lI (g1 := g) (by simp) (fun r _ acc => ⟨_, rfl, rfl, by simp [d__law_done_c1e, lstC, rd1]⟩) (by rw [hM.l]; omega)
  have fin : ∀ (M' : Mat), (∀ rest : DS, (ifS (asB (bin2 (varD 3) (varD 4) (opD eqD))) (putSt (varD 2) (varD 3) (d__law_done_c3 A)) (ifS (asB (bin2 (varD 5) (cD (.int 0)) (opD eqD))) (seqS (putSt (varD 2) (varD 3) (cbD lstC (consL (bin2 (varD 0) (varD 4) ixS) (nilL)))) (putSt (varD 2) (varD 4) (cbD lstC (consL (bin2 (varD 0) (varD 3) ixS) (nilL))))) (putSt (varD 2) (varD 3) (d__law_done_c5 A)))) [some (.d (mL M)), some (.d (dD (a, b, c))), some (.c g.length), some (.d (.int a)), some (.d (.int b)), some (.d (.int c)), none, none, none] (g ++ [.lst (M.map lI)]) = .nx [some (.d (mL M)), some (.d (dD (a, b, c))), some (.c g.length), some (.d (.int a)), some (.d (.int b)), some (.d (.int c)), none, none, none] (g ++ [.lst (M'.map lI)])) → phi__law_done A [.d (mL M), .d (dD (a, b, c))] g = .ok (.d (mL M')) g := fun M' e => by
    refine (defD_rt (N := 9) (g' := g ++ [.lst (M'.map lI)]) (s := .c g.length) ?_).trans (by
      unfold finD
      dsimp only
      rw [if_neg (Nat.lt_irrefl _), app_get]
      dsimp only [snapC]
      rw [app_take])
    unfold d__law_done
    refine (seq_go (ρ' := [some (.d (mL M)), some (.d (dD (a, b, c))), none, some (.d (.int a)), some (.d (.int b)), some (.d (.int c)), none, none, none]) (g' := g) rfl).trans ?_
    refine (seq_go (asg_go c1)).trans ?_
    refine (seq_go (e nextS)).trans ?_
    exact ret_go (by simp)
  have lm : (M.map lI).length = M.length := List.length_map ..
  unfold doneM
  dsimp only
  by_cases e1 : a = b
  · rw [if_pos e1]
    have c3 : d__law_done_c3 A [some (.d (mL M)), some (.d (dD (a, b, c))), some (.c g.length), some (.d (.int a)), some (.d (.int b)), some (.d (.int c)), none, none, none] (g ++ [.lst (M.map lI)]) = .ok (.d (lI ((M.getD a []).map fun x => -x))) (g ++ [.lst (M.map lI)]) := by
      have e2 : lI ((M.getD a []).map fun x => -x) = .lst ((M.getD a []).map fun x => D.int (-x)) := by
        unfold lI
        rw [List.map_map]; rfl
      rw [e2]
      exact compD_T D.int (fun x => D.int (-x)) (g1 := g ++ [Cell.lst (M.map lI)]) (by
        have := ixa (g ++ [Cell.lst (M.map lI)])
        generalize mL M = mm at *
        generalize M.map lI = ml at *
        simp [this]) (fun x _ acc => ⟨_, rfl, rfl, by simp [d__law_done_c3e]⟩) (by omega)
    refine fin _ fun _ => (if_yes (g1 := g ++ [Cell.lst (M.map lI)]) ?_).trans ?_
    · subst e1
      generalize mL M = mm at *
      generalize M.map lI = ml at *
      simp
    · rw [put_last (by rw [lm]; exact la) c3 (by simp) (by simp), setD_map]
  · rw [if_neg e1]
    have t1 : asB (bin2 (varD 3) (varD 4) (opD eqD)) [some (.d (mL M)), some (.d (dD (a, b, c))), some (.c g.length), some (.d (.int a)), some (.d (.int b)), some (.d (.int c)), none, none, none] (g ++ [.lst (M.map lI)]) = .ok false (g ++ [.lst (M.map lI)]) := by
      have q : ¬ ((a : Int) = (b : Int)) := by omega
      generalize mL M = mm at *
      generalize M.map lI = ml at *
      simp [q, e1]
    by_cases e2 : c = 0
    · rw [if_pos e2]
      subst e2
      refine fin _ fun _ => (if_no t1).trans ((if_yes (g1 := g ++ [Cell.lst (M.map lI)]) ?_).trans ?_)
      · generalize mL M = mm at *
        generalize M.map lI = ml at *
        simp
      · refine (seq_go (put_last (x := lI (M.getD b [])) (by rw [lm]; exact la) ?_ (by simp) (by simp))).trans ?_
        · have := ixb (g ++ [Cell.lst (M.map lI)])
          generalize mL M = mm at *
          generalize M.map lI = ml at *
          simp [this, lstC, rd1]
        · rw [setD_map]
          rw [put_last (x := lI (M.getD a [])) (by rw [List.length_map, List.length_set]; exact lb) ?_ (by simp) (by simp), setD_map]
          have := ixa (g ++ [Cell.lst ((M.set a (M.getD b [])).map lI)])
          generalize mL M = mm at *
          generalize (M.set a (M.getD b [])).map lI = ml at *
          simp [this, lstC, rd1]
    · rw [if_neg e2]
      have c5 : d__law_done_c5 A [some (.d (mL M)), some (.d (dD (a, b, c))), some (.c g.length), some (.d (.int a)), some (.d (.int b)), some (.d (.int c)), none, none, none] (g ++ [.lst (M.map lI)]) = .ok (.d (lI ((List.range M.length).map fun p => (M.getD a []).getD p 0 + c * (M.getD b []).getD p 0))) (g ++ [.lst (M.map lI)]) := by
        have e3 : lI ((List.range M.length).map fun p => (M.getD a []).getD p 0 + c * (M.getD b []).getD p 0) = .lst ((List.range M.length).map fun p => D.int ((M.getD a []).getD p 0 + c * (M.getD b []).getD p 0)) := by
          unfold lI
          rw [List.map_map]; rfl
        rw [e3]
        refine compD_T (fun p : Nat => D.int p) (fun p => D.int ((M.getD a []).getD p 0 + c * (M.getD b []).getD p 0)) (g1 := g ++ [Cell.lst (M.map lI)]) ?_ (fun p hp acc => ⟨_, rfl, rfl, ?_⟩) (by rw [List.length_range, hM.l]; omega)
        · rw [← rangeL_nn]
          exact range1_at (by simp) (inR_le (by omega) (by rw [hM.l]; omega))
        · rw [List.mem_range] at hp
          have i1 := ix_lst D.int (M.getD a []) (i := (p : Int)) (by omega) (by rw [ra, ← hM.l]; omega) (g ++ [Cell.lst (M.map lI)] ++ [Cell.lst acc])
          have i2 := ix_lst D.int (M.getD b []) (i := (p : Int)) (by omega) (by rw [rb, ← hM.l]; omega) (g ++ [Cell.lst (M.map lI)] ++ [Cell.lst acc])
          rw [Int.toNat_natCast] at i1 i2
          have j1 := ixa (g ++ [Cell.lst (M.map lI)] ++ [Cell.lst acc])
          have j2 := ixb (g ++ [Cell.lst (M.map lI)] ++ [Cell.lst acc])
          have mu := mulS_bd hc (getD_bd bb p) (by omega) (g ++ [Cell.lst (M.map lI)] ++ [Cell.lst acc])
          have d1 : (M.getD a []).getD p default = (M.getD a []).getD p 0 := rfl
          have d2 : (M.getD b []).getD p default = (M.getD b []).getD p 0 := rfl
          rw [d1] at i1
          rw [d2] at i2
          generalize (g ++ [Cell.lst (M.map lI)] ++ [Cell.lst acc]) = gg at *
          generalize (M.getD a []).getD p 0 = x1 at *
          generalize (M.getD b []).getD p 0 = x2 at *
          generalize mL M = mm at *
          simp only [lI] at j1 j2
          generalize M.getD a [] = r1 at *
          generalize M.getD b [] = r2 at *
          simp [d__law_done_c5e, j1, j2, i1, i2, mu]
      refine fin _ fun _ => (if_no t1).trans ((if_no (g1 := g ++ [Cell.lst (M.map lI)]) ?_).trans ?_)
      · generalize mL M = mm at *
        generalize M.map lI = ml at *
        simp [e2]
      · rw [put_last (by rw [lm]; exact la) c5 (by simp) (by simp), setD_map]
theorem law_matrix_eq {k : Nat} (hk : k ≤ 4) {ds : List Dg} (hd : ∀ d ∈ ds, OkD k d) (hc : ∀ d ∈ ds, d.2.2.natAbs < 2 ^ 20) (hl : ds.length ≤ 20) (g : G) : phi__law_matrix A [.d (.int k), .d (.lst (ds.map dD))] g = .ok (.d (.tup ((foldM (plainM k) ds).map SH.tI))) g := by
  refine defD_rt0 ?_
  obtain ⟨ρ2, g2, e2, rfl, i1, i2, y, rfl⟩ := loopS_T dD (nameG 3) (d__law_matrix_b1 A)
    (fun dn ρ g' => g' = g ∧ SqM k (foldM (plainM k) dn) ∧ BM (1 + 21 * dn.length) (foldM (plainM k) dn) ∧ ∃ y, ρ = [some (.d (.int k)), some (.d (.lst (ds.map dD))), some (.d (mL (foldM (plainM k) dn))), y, none]) 20 ds [] [some (.d (.int k)), some (.d (.lst (ds.map dD))), some (.d (mL (plainM k))), none, none] g (by simpa using hl)
    ⟨rfl, sq_plain k, plain_bd k, none, rfl⟩ (fun d hd' dn ρ g' hN ⟨e1, h1, h2, y, e3⟩ => by
      subst e1; subst e3
      have st := law_done_eq A h1 h2 (by omega) (by omega) (hd d hd') (hc d hd') g'
      have sq := sq_done h1 (hd d hd')
      have bd := done_bd h2 (hc d hd')
      have ef : foldM (plainM k) (dn ++ [d]) = doneM (foldM (plainM k) dn) d := by
        unfold foldM
        rw [List.foldl_append]; rfl
      refine ⟨[some (.d (.int k)), some (.d (.lst (ds.map dD))), some (.d (mL (foldM (plainM k) dn))), some (.d (dD d)), none], [some (.d (.int k)), some (.d (.lst (ds.map dD))), some (.d (mL (doneM (foldM (plainM k) dn) d))), some (.d (dD d)), none], g', rfl, ?_, rfl, by rw [ef]; exact sq, by rw [ef]; exact bd.mono (by rw [List.length_append]; simp; omega), some (.d (dD d)), by rw [ef]⟩
      unfold d__law_matrix_b1
      generalize mL (foldM (plainM k) dn) = m1 at *
      generalize mL (doneM (foldM (plainM k) dn) d) = m2 at *
      generalize dD d = dd at *
      generalize ds.map dD = dds at *
      exact asg_go (by simp [st]))
  rw [List.nil_append] at e2 i1 i2
  have pl := plain_eq A (k := k) (by omega) g2
  have c2 : d__law_matrix_c2 A [some (.d (.int k)), some (.d (.lst (ds.map dD))), some (.d (mL (foldM (plainM k) ds))), y, none] g2 = .ok (.d (.lst ((foldM (plainM k) ds).map SH.tI))) g2 :=
    compD_T lI SH.tI (g1 := g2) (by simp) (fun r _ acc => ⟨_, rfl, rfl, by simp [d__law_matrix_c2e, tupC, rd1]⟩) (by rw [i1.l]; omega)
  unfold d__law_matrix
  generalize hP : mL (plainM k) = m0 at *
  refine (seq_go (asg_go (s := .d m0) (g' := g2) (by simp [pl]))).trans ?_
  refine (seq_go (for_go (g1 := g2) (ds := ds.map dD) (by simp) e2)).trans ?_
  generalize (foldM (plainM k) ds).map SH.tI = tt at *
  exact ret_go (by simp [c2, tupC, rd1])
end
end Lk03
namespace Lk03
open PySem PySem.Spec DL DLS SH
open L2 hiding keyOf
section
variable (A : Lk03.Ad)
theorem led_eq {k a b : Nat} {M : Mat} (hM : SqM k M) (bM : BM a M) {v : List Int} (hv : v.length = k) (bv : Bv b v) (hab : a + b < 1000000) (hk : k ≤ 1000) (g : G) : phi__law_led A [.d (.tup (M.map SH.tI)), .d (SH.tI v)] g = .ok (.d (SH.tI (act M v))) g := by
  have e2 : SH.tI (act M v) = .tup (M.map fun r => D.int (dotL r v)) := by
    unfold SH.tI act
    rw [List.map_map]; rfl
  have c3 : d__law_led_c3 A [some (.d (.tup (M.map SH.tI))), some (.d (SH.tI v)), none, none] g = .ok (.d (.lst (M.map fun r => D.int (dotL r v)))) g := by
    refine compD_T SH.tI (fun r => D.int (dotL r v)) (g1 := g) (by simp) (fun r hr acc => ⟨_, rfl, rfl, ?_⟩) (by rw [hM.l]; omega)
    have hrl := hM.r r hr
    have c1 : d__law_led_c1 A [some (.d (.tup (M.map SH.tI))), some (.d (SH.tI v)), some (.d (SH.tI r)), none] (g ++ [Cell.lst acc]) = .ok (.d (.lst (((List.range v.length).map fun p => r.getD p 0 * v.getD p 0).map D.int))) (g ++ [Cell.lst acc]) := by
      rw [List.map_map]
      refine compD_T (fun p : Nat => D.int p) (fun p => D.int (r.getD p 0 * v.getD p 0)) (g1 := g ++ [Cell.lst acc]) ?_ (fun p hp acc2 => ⟨_, rfl, rfl, ?_⟩) (by rw [List.length_range]; omega)
      · rw [← rangeL_nn]
        exact range1_at (by simp) (inR_le (by omega) (by omega))
      · rw [List.mem_range] at hp
        have i1 := ix_tup D.int r (i := (p : Int)) (by omega) (by omega) (g ++ [Cell.lst acc] ++ [Cell.lst acc2])
        have i2 := ix_tup D.int v (i := (p : Int)) (by omega) (by omega) (g ++ [Cell.lst acc] ++ [Cell.lst acc2])
        rw [Int.toNat_natCast] at i1 i2
        have d1 : r.getD p default = r.getD p 0 := rfl
        have d2 : v.getD p default = v.getD p 0 := rfl
        rw [d1] at i1
        rw [d2] at i2
        have mu := mulS_bd (getD_bd (bM r hr) p) (getD_bd bv p) hab (g ++ [Cell.lst acc] ++ [Cell.lst acc2])
        generalize (g ++ [Cell.lst acc] ++ [Cell.lst acc2]) = gg at *
        generalize r.getD p 0 = x1 at *
        generalize v.getD p 0 = x2 at *
        simp [d__law_led_c1e, i1, i2, mu]
    have su : sumD (.lst (((List.range v.length).map fun p => r.getD p 0 * v.getD p 0).map D.int)) = some (.int (dotL r v)) := by
      rw [← led_sum r v (by omega)]
      show (intsL _).map _ = _
      rw [intsL_map]
      rfl
    generalize ((List.range v.length).map fun p => r.getD p 0 * v.getD p 0).map D.int = L at *
    simp [d__law_led_c3e, c1, su]
  refine defD_rt0 ?_
  unfold d__law_led
  rw [e2]
  generalize (M.map fun r => D.int (dotL r v)) = L at *
  exact ret_go (by simp [c3, tupC, rd1])
theorem law_turned_eq {k a b : Nat} {m : Int} {rs : List SH.Rd} {M : Mat} (hk4 : k ≤ 4) (hM : SqM k M) (bM : BM a M) (u : UseM k b rs) (hab : a + b < 1000000) (g : G) : phi__law_turned A [.d (dQ k m rs), .d (.tup (M.map SH.tI))] g = .ok (.d (dQ k m (sortR (rs.map (trR M))))) g := by
  have e2 : d__law_turned_c1 A [some (.d (dQ k m rs)), some (.d (.tup (M.map SH.tI))), none, none] g = .ok (.d (.lst (rs.map fun r => dR (trR M r)))) g :=
    compD_T dR (fun r => dR (trR M r)) (g1 := g) (by simp [dQ, ix3_2]) (fun r hr acc => ⟨_, rfl, rfl, by
      have le := led_eq A hM bM (u.len r hr) (u.bd r hr) hab (by omega) (g ++ [Cell.lst acc])
      have d0 : ∀ g, ixS (.d (dR r)) (.d (.int 0)) g = .ok (.d (.int r.1)) g := fun g => rfl
      have d1 : ∀ g, ixS (.d (dR r)) (.d (.int 1)) g = .ok (.d (.int r.2.1)) g := fun g => rfl
      have d2 : ∀ g, ixS (.d (dR r)) (.d (.int 2)) g = .ok (.d (SH.tI r.2.2)) g := fun g => rfl
      have er : dR (trR M r) = .tup [.int r.1, .int r.2.1, SH.tI (act M r.2.2)] := rfl
      rw [er]
      generalize SH.tI (act M r.2.2) = z1 at *
      generalize SH.tI r.2.2 = z2 at *
      generalize dR r = z3 at *
      generalize M.map SH.tI = z4 at *
      simp [d__law_turned_c1e, d0, d1, d2, le]⟩) (by have := u.few; omega)
  have e3 := law_sorted_parts_eq (sh A) (k := .int k) (m := .int m) (rs := rs.map (trR M)) (by rw [List.length_map]; exact u.few) (s := .d (.lst (rs.map fun r => dR (trR M r)))) (g := g) (by
    show some _ = some _
    rw [List.map_map]; rfl)
  rw [← e_sorted] at e3
  refine defD_rt0 ?_
  unfold d__law_turned
  refine (seq_go (asg_go e2)).trans ?_
  have q0 : ∀ g, ixS (.d (dQ k m rs)) (.d (.int 0)) g = .ok (.d (.int k)) g := fun g => rfl
  have q1 : ∀ g, ixS (.d (dQ k m rs)) (.d (.int 1)) g = .ok (.d (.int m)) g := fun g => rfl
  have er : dQ k m (sortR (rs.map (trR M))) = .tup [.int k, .int m, .tup ((sortR (rs.map (trR M))).map dR)] := rfl
  rw [er]
  generalize dQ k m rs = z1 at *
  generalize (rs.map fun r => dR (trR M r)) = z2 at *
  generalize (sortR (rs.map (trR M))).map dR = z3 at *
  exact ret_go (by simp [q0, q1, e3])
/-! ### drawn doings -/
structure OkDs (k : Nat) (ds : List Dg) : Prop where
  o : ∀ d ∈ ds, OkD k d
  c : ∀ d ∈ ds, d.2.2.natAbs < 2 ^ 20
  l : ds.length ≤ 4
theorem doing_step {p n k q : Nat} {g5 : G} (T5 : TapeAt p (n + 2 + 1) g5) (hk : 1 ≤ k) (hk4 : k ≤ 4) (hq : g5.length = q) {ds : List Dg} (hl : ds.length ≤ 1000) (y3 y4 y5 : Option S) :
    ∃ (d : Dg) (g8 : G) (z4 z5 : Option S), d__law_doings_b1 A [some (.c p), some (.d (.int k)), some (.c q), y3, y4, y5] (g5 ++ [.lst (ds.map dD)]) = .nx [some (.c p), some (.d (.int k)), some (.c q), y3, z4, z5] (g8 ++ [.lst ((ds ++ [d]).map dD)]) ∧ Tk p n g5 g8 ∧ OkD k d ∧ d.2.2.natAbs < 2 ^ 20 := by
  obtain ⟨w1, h1, f1, q1, a1, b1⟩ := draw_ok (n := n + 2) (T5.app (r := [.lst (ds.map dD)])) (m := (k : Int)) (by omega) (Nat.lt_of_le_of_lt (lg_le (k := 11) (by omega)) (by decide))
  obtain ⟨g6, rfl, k6⟩ := q1.app T5.lt
  have T6 : TapeAt p (n + 1 + 1) g6 := k6.at T5
  obtain ⟨w2, h2, f2, q2, a2, b2⟩ := draw_ok (n := n + 1) (T6.app (r := [.lst (ds.map dD)])) (m := (k : Int)) (by omega) (Nat.lt_of_le_of_lt (lg_le (k := 11) (by omega)) (by decide))
  obtain ⟨g7, rfl, k7⟩ := q2.app T6.lt
  have T7 : TapeAt p (n + 1) g7 := k7.at T6
  obtain ⟨i, rfl⟩ : ∃ i : Nat, w1 = i := ⟨w1.toNat, by omega⟩
  obtain ⟨j, rfl⟩ : ∃ j : Nat, w2 = j := ⟨w2.toNat, by omega⟩
  have len7 : g7.length = q := by rw [k7.len, k6.len, hq]
  have s1 : ∀ rest : DS, seqS (asgS 4 (callD (phi__law_draw A) (consL (varD 0) (consL (varD 1) (nilL))))) rest [some (.c p), some (.d (.int k)), some (.c q), y3, y4, y5] (g5 ++ [.lst (ds.map dD)]) = rest [some (.c p), some (.d (.int k)), some (.c q), y3, some (.d (.int i)), y5] (g6 ++ [.lst (ds.map dD)]) := fun rest => seq_go (asg_go (by
    rw [e_draw]
    generalize ds.map dD = dsx at *
    simp [f1]))
  have s2 : ∀ rest : DS, seqS (asgS 5 (callD (phi__law_draw A) (consL (varD 0) (consL (varD 1) (nilL))))) rest [some (.c p), some (.d (.int k)), some (.c q), y3, some (.d (.int i)), y5] (g6 ++ [.lst (ds.map dD)]) = rest [some (.c p), some (.d (.int k)), some (.c q), y3, some (.d (.int i)), some (.d (.int j))] (g7 ++ [.lst (ds.map dD)]) := fun rest => seq_go (asg_go (by
    rw [e_draw]
    generalize ds.map dD = dsx at *
    simp [f2]))
  by_cases e : i = j
  · subst e
    refine ⟨(i, i, 0), g7, some (.d (.int i)), some (.d (.int i)), ?_, (k6.trans k7).mono (by omega), ⟨by show i < k; omega, by show i < k; omega⟩, by show (0 : Int).natAbs < 2 ^ 20; decide⟩
    unfold d__law_doings_b1
    refine (s1 _).trans ((s2 _).trans ((if_yes (g1 := g7 ++ [Cell.lst (ds.map dD)]) (by
      generalize ds.map dD = dsx at *
      simp)).trans ?_))
    rw [List.map_append]
    have ed : dD (i, i, 0) = .tup [.int i, .int i, .int 0] := rfl
    have ln : (ds.map dD).length ≤ 1000 := by rw [List.length_map]; exact hl
    show _ = O.nx _ (g7 ++ [.lst (ds.map dD ++ [dD (i, i, 0)])])
    rw [ed]
    generalize ds.map dD = dsx at *
    subst len7
    exact app_body (by simp) (by simp) ln
  · obtain ⟨x, g9, f3, q3, hx⟩ := some_ints (sh A) (n := n) (T7.app (r := [.lst (ds.map dD)])) (is := [0, 1, -1, 2, -3, 1000000]) (by simp) (by simp)
    obtain ⟨g8, rfl, k8⟩ := q3.app T7.lt
    rw [← e_some] at f3
    simp only [List.map_cons, List.map_nil] at f3
    have len8 : g8.length = q := by rw [k8.len, len7]
    refine ⟨(i, j, x), g8, some (.d (.int i)), some (.d (.int j)), ?_, (k6.trans k7).trans k8, ⟨by show i < k; omega, by show j < k; omega⟩, by
      show x.natAbs < 2 ^ 20
      simp at hx
      omega⟩
    unfold d__law_doings_b1
    refine (s1 _).trans ((s2 _).trans ((if_no (g1 := g7 ++ [Cell.lst (ds.map dD)]) (by
      have ne : ¬ ((i : Int) = (j : Int)) := by omega
      generalize ds.map dD = dsx at *
      simp [ne, e])).trans ?_))
    rw [List.map_append]
    have ed : dD (i, j, x) = .tup [.int i, .int j, .int x] := rfl
    have ln : (ds.map dD).length ≤ 1000 := by rw [List.length_map]; exact hl
    show _ = O.nx _ (g8 ++ [.lst (ds.map dD ++ [dD (i, j, x)])])
    rw [ed]
    generalize ds.map dD = dsx at *
    have rl := rl_app (g := g7) (ds := dsx)
    have ap := app_ok (g := g8) (acc := dsx) (x := .tup [.int i, .int j, .int x]) (by omega)
    rw [len7] at rl
    rw [len8] at ap
    unfold exprS mthL
    simp only [varD, List.getElem?_cons_succ, List.getElem?_cons_zero, R.bind_ok, rl]
    have ef : consL (tupD (consL (varD 4) (consL (varD 5) (consL (callD (phi__law_some A) (consL (varD 0) (consL (lstD (consL (cD (.int 0)) (consL (cD (.int 1)) (consL (un1D negS (cD (.int 1))) (consL (cD (.int 2)) (consL (un1D negS (cD (.int 3))) (consL (bin2 (cD (.int 10)) (cD (.int 6)) (opD powD)) (nilL)))))))) (nilL)))) (nilL))))) (nilL) [some (.c p), some (.d (.int k)), some (.c q), y3, some (.d (.int i)), some (.d (.int j))] (g7 ++ [.lst dsx]) = .ok [.d (.tup [.int i, .int j, .int x])] (g8 ++ [.lst dsx]) := by
      simp [negS, f3]
    rw [ef]
    simp only [R.bind_ok, ap]
    rfl
theorem doings_ok {g : G} {p n k : Nat} (hk : 1 ≤ k) (hk4 : k ≤ 4) (T : TapeAt p (n + 13) g) : ∃ (ds : List Dg) (g' : G), phi__law_doings A [.c p, .d (.int k)] g = .ok (.d (.lst (ds.map dD))) g' ∧ Tk p n g g' ∧ OkDs k ds := by
  obtain ⟨v, g1, e1, q1, a1, b1⟩ := draw_ok (n := n + 12) ((T.mono (m := n + 12 + 1) (by omega)).app (r := [.lst []])) (m := 5) (by decide) (by decide)
  obtain ⟨g4, rfl, k4⟩ := q1.app T.lt
  have T4 : TapeAt p (n + 12) g4 := k4.at T
  have len4 : g4.length = g.length := k4.len
  obtain ⟨c, rfl⟩ : ∃ c : Nat, v = c := ⟨v.toNat, by omega⟩
  have loop := loopS_inv (nameG 3) (d__law_doings_b1 A) (fun j ρ g' => (∃ g5 ds, g' = g5 ++ [.lst (ds.map dD)] ∧ Tk p (n + 3 * j) g4 g5 ∧ ds.length + j ≤ 4 ∧ (∀ d ∈ ds, OkD k d) ∧ ∀ d ∈ ds, d.2.2.natAbs < 2 ^ 20) ∧ ∃ y3 y4 y5, ρ = [some (.c p), some (.d (.int k)), some (.c g.length), y3, y4, y5]) (fun _ _ => False) (rangeL 0 (c : Int))
    [some (.c p), some (.d (.int k)), some (.c g.length), none, none, none] (g4 ++ [.lst []]) ⟨⟨g4, [], rfl, (Tk.refl T4).mono (by rw [rangeL_len]; omega), by rw [rangeL_len]; simp; omega, (fun d h => by cases h), fun d h => by cases h⟩, none, none, none, rfl⟩ (fun d hd j ρ g' ⟨⟨g5, ds, e5, k5, hl, ho, hc⟩, y3, y4, y5, e6⟩ => by
      subst e5; subst e6
      obtain ⟨dg, g8, z4, z5, e, k8, h1, h2⟩ := doing_step A (p := p) (n := n + 3 * j) (k := k) (q := g.length) ((k5.at T4).mono (by omega)) hk hk4 (by rw [k5.len, len4]) (ds := ds) (by omega) (some (.d d)) y4 y5
      refine ⟨[some (.c p), some (.d (.int k)), some (.c g.length), some (.d d), y4, y5], rfl, .inl ⟨_, _, e, ⟨g8, ds ++ [dg], rfl, k5.trans k8, by rw [List.length_append]; simp; omega, fun x hx => ?_, fun x hx => ?_⟩, _, _, _, rfl⟩⟩
      · rcases List.mem_append.mp hx with hx | hx
        · exact ho x hx
        · simp at hx; subst hx; exact h1
      · rcases List.mem_append.mp hx with hx | hx
        · exact hc x hx
        · simp at hx; subst hx; exact h2)
  rcases loop with ⟨ρ2, g9, e9, ⟨g5, ds, rfl, k5, hl, ho, hc⟩, y3, y4, y5, rfl⟩ | ⟨_, _, _, z⟩
  · have len5 : g5.length = g.length := by rw [k5.len, len4]
    refine ⟨ds, g5, ?_, (k4.trans k5).mono (by omega), ho, hc, by omega⟩
    have it : range1 (consL (callD (phi__law_draw A) (consL (varD 0) (consL (cD (.int 5)) (nilL)))) (nilL)) [some (.c p), some (.d (.int k)), some (.c g.length), none, none, none] (g ++ [.lst []]) = .ok (rangeL 0 (c : Int)) (g4 ++ [.lst []]) := by
      have e' : consL (callD (phi__law_draw A) (consL (varD 0) (consL (cD (.int 5)) (nilL)))) nilL [some (.c p), some (.d (.int k)), some (.c g.length), none, none, none] (g ++ [.lst []]) = .ok [.d (.int c)] (g4 ++ [.lst []]) := by
        rw [e_draw]; simp [e1]
      unfold range1
      rw [e']
      dsimp only [R.bind]
      rw [inR_le (by omega) (by omega)]
      rfl
    refine (defD_rt (N := 6) (g' := g5 ++ [Cell.lst (ds.map dD)]) (s := .c g.length) ?_).trans (by
      unfold finD
      dsimp only
      rw [if_neg (Nat.lt_irrefl _), ← len5, app_get]
      dsimp only [snapC]
      rw [app_take])
    unfold d__law_doings
    refine (seq_go (asg_go (s := .c g.length) (g' := g ++ [Cell.lst []]) (by simp))).trans ?_
    refine (seq_go (for_go it e9)).trans ?_
    exact ret_go (by simp)
  · exact z.elim
end
end Lk03
namespace SH
open PySem PySem.Spec DL DLS PySem.W
open L2 hiding keyOf
theorem sortR_map {rs : List Rd} {f : Rd → Rd} : sortR ((sortR rs).map f) = sortR (rs.map f) := sortR_ext fun r => by
  simp only [List.mem_map, mem_sortR]
theorem sortR_congr {rs : List Rd} {f g : Rd → Rd} (h : ∀ r ∈ rs, f r = g r) : sortR (rs.map f) = sortR (rs.map g) := by rw [List.map_congr_left h]
theorem OkP.useM {k m : Nat} {rs : List Rd} (h : OkP k m rs) : UseM k 40 rs := ⟨by have := h.few; omega, fun r hr => (h.each r hr).l, fun r hr x hx => by
  have := (h.each r hr).c x hx
  omega⟩
theorem UseM.sort {k b : Nat} {rs : List Rd} (h : UseM k b rs) : UseM k b (sortR rs) := ⟨Nat.lt_of_le_of_lt (len_sortR rs) h.few, fun r hr => h.len r ((mem_sortR rs r).mp hr), fun r hr => h.bd r ((mem_sortR rs r).mp hr)⟩
theorem UseM.tr {k a b : Nat} {rs : List Rd} (h : UseM k b rs) {M : Mat} (hM : SqM k M) (bM : BM a M) (hk : k ≤ 4) : UseM k (a + b + 3) (sortR (rs.map (trR M))) := by
  refine UseM.sort ⟨by rw [List.length_map]; exact h.few, fun r hr => ?_, fun r hr => ?_⟩
  · obtain ⟨q, hq, rfl⟩ := List.mem_map.mp hr
    show (act M q.2.2).length = k
    rw [act_len, hM.l]
  · obtain ⟨q, hq, rfl⟩ := List.mem_map.mp hr
    exact act_bd bM (h.bd q hq) fun r hr => by rw [hM.r r hr]; exact hk
theorem UseM.st {k b : Nat} {rs : List Rd} (h : UseM k b rs) {t : Int} (ht : t.natAbs < 2 ^ 41) : UseM k (b + 42) (sortR (rs.map (stR t))) := by
  refine UseM.sort ⟨by rw [List.length_map]; exact h.few, fun r hr => ?_, fun r hr x hx => ?_⟩
  · obtain ⟨q, hq, rfl⟩ := List.mem_map.mp hr
    show (q.2.2.map _).length = k
    rw [List.length_map]
    exact h.len q hq
  · obtain ⟨q, hq, rfl⟩ := List.mem_map.mp hr
    obtain ⟨y, hy, rfl⟩ := List.mem_map.mp hx
    have := mul_bd ht (h.bd q hq y hy)
    exact Nat.lt_of_le_of_lt this (Nat.pow_lt_pow_right (by decide) (by omega))
theorem UseM.short {k b : Nat} {rs : List Rd} (h : UseM k b rs) (hk : k ≤ 4) : rs.length ≤ 1000 ∧ ∀ r ∈ rs, r.2.2.length ≤ 1000 := ⟨by have := h.few; omega, fun r hr => by rw [h.len r hr]; omega⟩
theorem dot_scale (t : Int) : ∀ r v : List Int, dotL r (v.map fun x => t * x) = t * dotL r v
  | [], v => by simp [dotL]
  | x :: r, [] => by simp [dotL]
  | x :: r, y :: v => by
    rw [List.map_cons, dot_cons, dot_cons, dot_scale t r v]
    grind
theorem act_scale (t : Int) (M : Mat) (v : List Int) : act M (v.map fun x => t * x) = (act M v).map fun x => t * x := by
  unfold act
  rw [List.map_map]
  exact List.map_congr_left fun r _ => dot_scale t r v
theorem made_bd {k : Nat} {ds : List Dg} (h : ∀ d ∈ ds, d.2.2.natAbs < 2 ^ 20) (hl : ds.length ≤ 8) : BM 170 (foldM (plainM k) ds) := (fold_bd ds (plain_bd k) h).mono (by omega)
theorem act_made {k : Nat} (hk : k ≤ 4) {ds : List Dg} (h : ∀ d ∈ ds, OkD k d) {v : List Int} (hv : v.length = k) : act (foldM (plainM k) ds) v = foldV v ds := by
  rw [act_fold hv ds (sq_plain k) h, act_plain hv hk]
theorem contra_ok {k : Nat} {ds : List Dg} (h : ∀ d ∈ ds, OkD k d) : ∀ d ∈ contra ds, OkD k d := fun d hd => by
  unfold contra at hd
  obtain ⟨e, he, rfl⟩ := List.mem_map.mp hd
  exact h e (List.mem_reverse.mp he)
theorem contra_bd {ds : List Dg} (h : ∀ d ∈ ds, d.2.2.natAbs < 2 ^ 20) : ∀ d ∈ contra ds, d.2.2.natAbs < 2 ^ 20 := fun d hd => by
  unfold contra at hd
  obtain ⟨e, he, rfl⟩ := List.mem_map.mp hd
  show (-e.2.2).natAbs < 2 ^ 20
  rw [Int.natAbs_neg]
  exact h e (List.mem_reverse.mp he)
theorem contra_len (ds : List Dg) : (contra ds).length = ds.length := by
  unfold contra
  rw [List.length_map, List.length_reverse]
theorem foldV_len (v : List Int) : ∀ ds : List Dg, (foldV v ds).length = v.length := fun ds => by
  induction ds generalizing v with
  | nil => rfl
  | cons d ds ih =>
    show (foldV (doneV v d) ds).length = _
    rw [ih, done_len]
end SH
namespace Lk03
open PySem PySem.Spec DL DLS SH
open L2 hiding keyOf
section
variable (A : Lk03.Ad)
abbrev P (k m : Int) (rs : List SH.Rd) : D := dP (sh A) k m rs
abbrev tM (M : Mat) : D := .tup (M.map SH.tI)
theorem is_ok {k m : Int} {kk b : Nat} {rs : List SH.Rd} (u : UseM kk b rs) (hk : kk ≤ 4) (g : G) : phi__law_is A [.d (P A k m rs), .d (dQ k m rs)] g = .ok (.d (.bl true)) g := by
  rw [e_is]
  exact law_is_eq (sh A) (hC A) (u.short hk).1 (u.short hk).2 g
theorem ne_ok (k m : Int) (rs : List SH.Rd) (g : G) : neX A.Program (phi_Program___eq__ A) (.d (P A k m rs)) (.d (P A k m rs)) g = .ok (.d (.bl false)) g := prog_ne (sh A) (hC A) k m rs g
theorem turn_ok {k b : Nat} {m : Int} {rs : List SH.Rd} (hk : 1 ≤ k) (hk4 : k ≤ 4) (u : UseM k b rs) (hb : b ≤ 1000) {ds : List Dg} (ho : ∀ d ∈ ds, OkD k d) (hc : ∀ d ∈ ds, d.2.2.natAbs < 2 ^ 20) (hl : ds.length ≤ 8) (g : G) :
    phi_turned A [.d (P A k m rs), .d (tM (foldM (plainM k) ds))] g = .ok (.d (P A k m (sortR (rs.map (trR (foldM (plainM k) ds)))))) g := by
  rw [e_turned]
  exact turned_eq (sh A) hk hk4 (sq_fold ds (sq_plain k) ho) (made_bd hc hl) (by decide) hb u (det_made hk hk4 ho) g
theorem stretch_ok {k b : Nat} {m : Int} {rs : List SH.Rd} (hk4 : k ≤ 4) (u : UseM k b rs) (hb : b ≤ 1000) {t : Int} (h1 : 1 ≤ t) (h2 : t ≤ 1000000000000) (g : G) :
    phi_stretched A [.d (P A k m rs), .d (.int t)] g = .ok (.d (P A k m (sortR (rs.map (stR t))))) g := by
  rw [e_stretched]
  exact stretched_eq (sh A) h1 h2 hb hk4 u g
theorem body_ok {g : G} {n : Nat} (T : TapeAt 1 (n + 230) g) (x0 x2 y3 y4 y5 y6 y7 y8 y9 y10 y11 y12 y13 y14 y15 y16 y17 : Option S) : ∃ z3 z4 z5 z6 z7 z8 z9 z10 z11 z12 z13 z14 z15 z16 z17 g', d_law_b6 A [x0, some (.c 1), x2, y3, y4, y5, y6, y7, y8, y9, y10, y11, y12, y13, y14, y15, y16, y17] g = .nx [x0, some (.c 1), x2, z3, z4, z5, z6, z7, z8, z9, z10, z11, z12, z13, z14, z15, z16, z17] g' ∧ TapeAt 1 n g' := by
  obtain ⟨k, m, rs, g1, e1, k1, ok, fix⟩ := parts_ok (sh A) (n := n + 30) (T.mono (by omega))
  rw [← e_parts] at e1
  have T1 : TapeAt 1 (n + 30) g1 := k1.at T
  have e2 : phi__law_program A [.d (dQ k m rs)] g1 = .ok (.d (P A k m rs)) g1 := by
    rw [e_program]
    exact law_program_eq (sh A) ok g1
  have hk1 := ok.k1
  have hk4 := ok.k4
  obtain ⟨ds, g2, e3, k2, ods⟩ := doings_ok A (n := n + 17) hk1 hk4 (T1.mono (by omega))
  have T2 : TapeAt 1 (n + 17) g2 := k2.at T1
  obtain ⟨ms, g3, e4, k3, oms⟩ := doings_ok A (n := n + 4) hk1 hk4 (T2.mono (by omega))
  have T3 : TapeAt 1 (n + 3 + 1) g3 := k3.at T2
  obtain ⟨t, g4, e5, k4, ht⟩ := some_ints (sh A) (n := n + 3) T3 (is := [1, 2, 3, 1000, 1000000000000]) (by simp) (by simp)
  rw [← e_some] at e5
  simp only [List.map_cons, List.map_nil] at e5
  have T4 : TapeAt 1 (n + 3) g4 := k4.at T3
  have t1 : 1 ≤ t ∧ t ≤ 1000000000000 := by simp at ht; omega
  have u := ok.useM
  have oc := contra_ok ods.o
  have cc := contra_bd ods.c
  have lc : (contra ds).length ≤ 8 := by rw [contra_len]; have := ods.l; omega
  have ob : ∀ d ∈ ds ++ ms, OkD k d := fun d hd => (List.mem_append.mp hd).elim (ods.o d) (oms.o d)
  have cb : ∀ d ∈ ds ++ ms, d.2.2.natAbs < 2 ^ 20 := fun d hd => (List.mem_append.mp hd).elim (ods.c d) (oms.c d)
  have lb : (ds ++ ms).length ≤ 8 := by rw [List.length_append]; have := ods.l; have := oms.l; omega
  have ld : ds.length ≤ 8 := by have := ods.l; omega
  have lms : ms.length ≤ 8 := by have := oms.l; omega
  have u1 := u.tr (sq_fold ds (sq_plain k) ods.o) (made_bd (k := k) ods.c ld) hk4
  have u2 := u.st (t := t) (by omega)
  have m1 : ∀ g, phi__law_matrix A [.d (.int k), .d (.lst (ds.map dD))] g = .ok (.d (tM (foldM (plainM k) ds))) g := fun g => law_matrix_eq A hk4 ods.o ods.c (by omega) g
  have m2 : ∀ g, phi__law_matrix A [.d (.int k), .d (.lst ((contra ds).map dD))] g = .ok (.d (tM (foldM (plainM k) (contra ds)))) g := fun g => law_matrix_eq A hk4 oc cc (by omega) g
  have m3 : ∀ g, phi__law_matrix A [.d (.int k), .d (.lst (ms.map dD))] g = .ok (.d (tM (foldM (plainM k) ms))) g := fun g => law_matrix_eq A hk4 oms.o oms.c (by omega) g
  have m4 : ∀ g, phi__law_matrix A [.d (.int k), .d (.lst (ds.map dD ++ ms.map dD))] g = .ok (.d (tM (foldM (plainM k) (ds ++ ms)))) g := fun g => by
    have := law_matrix_eq A hk4 ob cb (by omega) g
    rw [List.map_append] at this
    exact this
  have m5 : ∀ g, phi__law_matrix A [.d (.int k), .d (.lst [])] g = .ok (.d (tM (plainM k))) g := fun g => law_matrix_eq A hk4 (ds := []) (fun d h => by cases h) (fun d h => by cases h) (by simp) g
  have r1 : ∀ g, phi_turned A [.d (P A k m rs), .d (tM (foldM (plainM k) ds))] g = .ok (.d (P A k m (sortR (rs.map (trR (foldM (plainM k) ds)))))) g := fun g => turn_ok A hk1 hk4 u (by decide) ods.o ods.c ld g
  have l1 : ∀ g, phi__law_turned A [.d (dQ k m rs), .d (tM (foldM (plainM k) ds))] g = .ok (.d (dQ k m (sortR (rs.map (trR (foldM (plainM k) ds)))))) g := fun g => law_turned_eq A hk4 (sq_fold ds (sq_plain k) ods.o) (made_bd ods.c ld) u (by decide) g
  have i1 : ∀ g, phi__law_is A [.d (P A k m (sortR (rs.map (trR (foldM (plainM k) ds))))), .d (dQ k m (sortR (rs.map (trR (foldM (plainM k) ds)))))] g = .ok (.d (.bl true)) g := fun g => is_ok A u1 hk4 g
  have r2 : ∀ g, phi_turned A [.d (P A k m (sortR (rs.map (trR (foldM (plainM k) ds))))), .d (tM (foldM (plainM k) (contra ds)))] g = .ok (.d (P A k m rs)) g := fun g => by
    rw [turn_ok A hk1 hk4 u1 (by decide) oc cc lc g, sortR_map, List.map_map, sortR_congr (f := trR _ ∘ trR _) (g := id) fun r hr => ?_, List.map_id, fix]
    have lr := u.len r hr
    show (r.1, r.2.1, act _ (act _ r.2.2)) = r
    rw [act_made hk4 ods.o lr, act_made hk4 oc (by rw [foldV_len]; exact lr), fold_back ds r.2.2 (by rw [lr]; exact ods.o)]
  have r3 : ∀ g, phi_turned A [.d (P A k m (sortR (rs.map (trR (foldM (plainM k) ds))))), .d (tM (foldM (plainM k) ms))] g = .ok (.d (P A k m (sortR (rs.map (trR (foldM (plainM k) (ds ++ ms))))))) g := fun g => by
    rw [turn_ok A hk1 hk4 u1 (by decide) oms.o oms.c lms g, sortR_map, List.map_map, sortR_congr (f := trR _ ∘ trR _) (g := trR (foldM (plainM k) (ds ++ ms))) fun r hr => ?_]
    have lr := u.len r hr
    show (r.1, r.2.1, act _ (act _ r.2.2)) = (r.1, r.2.1, act _ r.2.2)
    rw [act_made hk4 ods.o lr, act_made hk4 oms.o (by rw [foldV_len]; exact lr), act_made hk4 ob lr]
    unfold foldV
    rw [List.foldl_append]
  have r4 : ∀ g, phi_turned A [.d (P A k m rs), .d (tM (foldM (plainM k) (ds ++ ms)))] g = .ok (.d (P A k m (sortR (rs.map (trR (foldM (plainM k) (ds ++ ms))))))) g := fun g => turn_ok A hk1 hk4 u (by decide) ob cb lb g
  have s1 : ∀ g, phi_stretched A [.d (P A k m rs), .d (.int t)] g = .ok (.d (P A k m (sortR (rs.map (stR t))))) g := fun g => stretch_ok A hk4 u (by decide) t1.1 t1.2 g
  have i2 : ∀ g, phi__law_is A [.d (P A k m (sortR (rs.map (stR t)))), .d (dQ k m (sortR (rs.map (stR t))))] g = .ok (.d (.bl true)) g := fun g => is_ok A u2 hk4 g
  have s2 : ∀ g, phi_stretched A [.d (P A k m (sortR (rs.map (trR (foldM (plainM k) ds))))), .d (.int t)] g = .ok (.d (P A k m (sortR (rs.map (stR t ∘ trR (foldM (plainM k) ds)))))) g := fun g => by
    rw [stretch_ok A hk4 u1 (by decide) t1.1 t1.2 g, sortR_map, List.map_map]
  have r5 : ∀ g, phi_turned A [.d (P A k m (sortR (rs.map (stR t)))), .d (tM (foldM (plainM k) ds))] g = .ok (.d (P A k m (sortR (rs.map (stR t ∘ trR (foldM (plainM k) ds)))))) g := fun g => by
    rw [turn_ok A hk1 hk4 u2 (by decide) ods.o ods.c ld g, sortR_map, List.map_map, sortR_congr (f := trR _ ∘ stR t) (g := stR t ∘ trR _) fun r hr => ?_]
    show (r.1, r.2.1, act _ (r.2.2.map _)) = (r.1, r.2.1, (act _ r.2.2).map _)
    rw [act_scale]
  have r6 : ∀ g, phi_turned A [.d (P A k m rs), .d (tM (plainM k))] g = .ok (.d (P A k m rs)) g := fun g => by
    have := turn_ok A (m := m) hk1 hk4 u (by decide) (ds := []) (fun d h => by cases h) (fun d h => by cases h) (by simp) g
    have e : foldM (plainM k) [] = plainM k := rfl
    rw [e] at this
    rw [this, sortR_congr (f := trR _) (g := id) fun r hr => ?_, List.map_id, fix]
    show (r.1, r.2.1, act _ r.2.2) = r
    rw [act_plain (u.len r hr) hk4]
  have s3 : ∀ g, phi_stretched A [.d (P A k m rs), .d (.int 1)] g = .ok (.d (P A k m rs)) g := fun g => by
    rw [stretch_ok A hk4 u (by decide) (by decide) (by decide) g, sortR_congr (f := stR 1) (g := id) fun r hr => ?_, List.map_id, fix]
    show (r.1, r.2.1, r.2.2.map _) = r
    have : (r.2.2.map fun x => 1 * x) = r.2.2 := by simp
    rw [this]
  have i3 : ∀ g, phi__law_is A [.d (P A k m rs), .d (dQ k m rs)] g = .ok (.d (.bl true)) g := fun g => is_ok A u hk4 g
  have q := fun rs g => ne_ok A (k := k) (m := m) rs g
  have q0 : ∀ g, ixS (.d (dQ k m rs)) (.d (.int 0)) g = .ok (.d (.int k)) g := fun g => rfl
  have q1 : ∀ g, ixS (.d (dQ k m rs)) (.d (.int 1)) g = .ok (.d (.int m)) g := fun g => rfl
  have q2 : ∀ g, ixS (.d (dQ k m rs)) (.d (.int 2)) g = .ok (.d (.tup (rs.map dR))) g := fun g => rfl
  -- the contrary doings
  have c1 : d_law_c1 A [x0, some (.c 1), x2, some (.d (dQ k m rs)), some (.d (P A k m rs)), y5, y6, y7, y8, y9, y10, some (.d (.lst (ds.map dD))), some (.d (.lst (ms.map dD))), y13, y14, y15, y16, y17] g3 = .ok (.d (.lst ((contra ds).map dD))) g3 := by
    unfold contra
    rw [List.map_map]
    refine compD_T dD (fun d => dD (d.1, d.2.1, -d.2.2)) (g1 := g3) ?_ (fun d _ acc => ⟨_, rfl, rfl, ?_⟩) (by rw [List.length_reverse]; omega)
    · have rv : ∀ g, revS (.d (.lst (ds.map dD))) g = .ok (.d (.lst (ds.reverse.map dD))) g := fun g => by
        show (match some (ds.map dD) with | some xs => DL.R.ok (S.d (.lst xs.reverse)) g | none => .bad) = _
        rw [List.map_reverse]
      generalize (ds.reverse.map dD) = r2 at *
      simp [revD, rv]
    · have d0 : ∀ g, ixS (.d (dD d)) (.d (.int 0)) g = .ok (.d (.int d.1)) g := fun g => rfl
      have d1 : ∀ g, ixS (.d (dD d)) (.d (.int 1)) g = .ok (.d (.int d.2.1)) g := fun g => rfl
      have d2 : ∀ g, ixS (.d (dD d)) (.d (.int 2)) g = .ok (.d (.int d.2.2)) g := fun g => rfl
      have er : dD (d.1, d.2.1, -d.2.2) = .tup [.int d.1, .int d.2.1, .int (-d.2.2)] := rfl
      rw [er]
      generalize dD d = z1 at *
      simp [d_law_c1e, d0, d1, d2]
  -- the long steps
  have tb : t.natAbs < 2 ^ 41 := by omega
  obtain ⟨a13, a14, a15, lp⟩ := gather (slots := (13, 14, 15)) (body := d_law_b5 A) (stR t) (fun x y z => [x0, some (.c 1), x2, some (.d (dQ k m rs)), some (.d (P A k m rs)), some (.d (.lst ((contra ds).map dD))), some (.d (tM (foldM (plainM k) ds))), some (.d (P A k m (sortR (rs.map (trR (foldM (plainM k) ds)))))), some (.d (tM (foldM (plainM k) (ds ++ ms)))), some (.d (.int t)), some (.c g4.length), some (.d (.lst (ds.map dD))), some (.d (.lst (ms.map dD))), x, y, z, y16, y17]) g4 rs (by have := u.few; omega) (fun _ _ _ _ _ _ => rfl) (fun r hr acc hacc => by
    have e : ∀ acc, d_law_c3 A [x0, some (.c 1), x2, some (.d (dQ k m rs)), some (.d (P A k m rs)), some (.d (.lst ((contra ds).map dD))), some (.d (tM (foldM (plainM k) ds))), some (.d (P A k m (sortR (rs.map (trR (foldM (plainM k) ds)))))), some (.d (tM (foldM (plainM k) (ds ++ ms)))), some (.d (.int t)), some (.c g4.length), some (.d (.lst (ds.map dD))), some (.d (.lst (ms.map dD))), some (.d (.int r.1)), some (.d (.int r.2.1)), some (.d (SH.tI r.2.2)), y16, y17] (g4 ++ [.lst acc]) = .ok (.d (.lst (r.2.2.map fun x => D.int (t * x)))) (g4 ++ [.lst acc]) := fun acc =>
      compD_T D.int (fun x => D.int (t * x)) (g1 := g4 ++ [Cell.lst acc]) (by simp) (fun x hx acc2 => ⟨_, rfl, rfl, by
        have := mulS_bd tb (u.bd r hr x hx) (by decide) (g4 ++ [Cell.lst acc] ++ [Cell.lst acc2])
        generalize (g4 ++ [Cell.lst acc] ++ [Cell.lst acc2]) = gg at *
        simp [d_law_c3e, this]⟩) (by rw [u.len r hr]; omega)
    have e' := e acc
    unfold d_law_b5
    refine app_body (by simp) ?_ hacc
    have er : dR (stR t r) = .tup [.int r.1, .int r.2.1, .tup (r.2.2.map fun x => D.int (t * x))] := by
      unfold dR stR
      rw [List.map_map]; rfl
    rw [er]
    generalize (r.2.2.map fun x => D.int (t * x)) = u3 at *
    simp [e', tupC, rd1]) y13 y14 y15
  have so := law_sorted_parts_eq (sh A) (k := .int k) (m := .int m) (rs := rs.map (stR t)) (by rw [List.length_map]; exact u.few) (s := .c g4.length) (g := g4 ++ [.lst (rs.map fun r => dR (stR t r))]) (by rw [rl_app, List.map_map]; rfl)
  rw [← e_sorted] at so
  have so' : phi__law_sorted_parts A [.d (.int k), .d (.int m), .c g4.length] (g4 ++ [.lst (rs.map fun r => dR (stR t r))]) = .ok (.d (dQ k m (sortR (rs.map (stR t))))) (g4 ++ [.lst (rs.map fun r => dR (stR t r))]) := so
  refine ⟨some (.d (dQ k m rs)), some (.d (P A k m rs)), some (.d (.lst ((contra ds).map dD))), some (.d (tM (foldM (plainM k) ds))), some (.d (P A k m (sortR (rs.map (trR (foldM (plainM k) ds)))))), some (.d (tM (foldM (plainM k) (ds ++ ms)))), some (.d (.int t)), some (.c g4.length), some (.d (.lst (ds.map dD))), some (.d (.lst (ms.map dD))), a13, a14, a15, y16, y17, g4 ++ [.lst (rs.map fun r => dR (stR t r))], ?_, (T4.mono (by omega)).app⟩
  have ad : ∀ g, addS (.d (.lst (ds.map dD))) (.d (.lst (ms.map dD))) g = .ok (.d (.lst (ds.map dD ++ ms.map dD))) g := fun g => by
    show (if (ds.map dD).length + (ms.map dD).length ≤ 10000000 then DL.R.ok (S.d (.lst (ds.map dD ++ ms.map dD))) g else .bad) = _
    rw [if_pos (by rw [List.length_map, List.length_map]; omega)]
  unfold d_law_b6
  have itl : ∀ g, seqI (bin2 (varD 3) (cD (.int 2)) ixS) [x0, some (.c 1), x2, some (.d (dQ k m rs)), some (.d (P A k m rs)), some (.d (.lst ((contra ds).map dD))), some (.d (tM (foldM (plainM k) ds))), some (.d (P A k m (sortR (rs.map (trR (foldM (plainM k) ds)))))), some (.d (tM (foldM (plainM k) (ds ++ ms)))), some (.d (.int t)), some (.c g4.length), some (.d (.lst (ds.map dD))), some (.d (.lst (ms.map dD))), y13, y14, y15, y16, y17] g = .ok (rs.map dR) g := fun g => by
    simp [q2, itemsD]
  generalize (rs.map fun r => dR (stR t r)) = longs at *
  generalize sortR (rs.map (trR (foldM (plainM k) ds))) = rA at *
  generalize sortR (rs.map (trR (foldM (plainM k) (ds ++ ms)))) = rB at *
  generalize sortR (rs.map (stR t)) = rC at *
  generalize sortR (rs.map (stR t ∘ trR (foldM (plainM k) ds))) = rE at *
  generalize tM (foldM (plainM k) ds) = M1 at *
  generalize tM (foldM (plainM k) (contra ds)) = M2 at *
  generalize tM (foldM (plainM k) ms) = M3 at *
  generalize tM (foldM (plainM k) (ds ++ ms)) = M4 at *
  generalize tM (plainM k) = M5 at *
  generalize (contra ds).map dD = Lc at *
  generalize ds.map dD ++ ms.map dD = Lb at *
  generalize ds.map dD = Ld at *
  generalize ms.map dD = Lm at *
  generalize hP : P A k m rs = Pr at *
  have qP : ∀ g, neX A.Program (phi_Program___eq__ A) (.d Pr) (.d Pr) g = .ok (.d (.bl false)) g := fun g => by rw [← hP]; exact q rs g
  have qB := q rB
  have qE := q rE
  generalize P A k m rA = PA at *
  generalize P A k m rB = PB at *
  generalize P A k m rC = PC at *
  generalize P A k m rE = PE at *
  generalize dQ k m rs = Qr at *
  generalize dQ k m rA = QA at *
  generalize dQ k m rC = QC at *
  refine (seq_go (asg_go (s := .d Qr) (g' := g1) (by simp [e1]))).trans ?_
  refine (seq_go (asg_go (s := .d Pr) (g' := g1) (by simp [e2]))).trans ?_
  refine (seq_go (ρ' := [x0, some (.c 1), x2, some (.d Qr), some (.d Pr), y5, y6, y7, y8, y9, y10, some (.d (.lst Ld)), some (.d (.lst Lm)), y13, y14, y15, y16, y17]) (g' := g3) ?_).trans ?_
  · unfold parS
    simp [q0, e3, e4]
  refine (seq_go (asg_go c1)).trans ?_
  refine (seq_go (asg_go (s := .d M1) (g' := g3) (by simp [q0, m1]))).trans ?_
  refine (seq_go (asg_go (s := .d PA) (g' := g3) (by simp [r1]))).trans ?_
  refine (seq_skip (by simp [l1, i1])).trans ?_
  refine (seq_skip (by simp [q0, m2, r2, qP])).trans ?_
  refine (seq_go (asg_go (s := .d M4) (g' := g3) (by simp [q0, ad, m4]))).trans ?_
  refine (seq_skip (by simp [q0, m3, r3, r4, qB])).trans ?_
  refine (seq_go (asg_go (s := .d (.int t)) (g' := g4) (by simp [e5]))).trans ?_
  refine (seq_go (asg_go (s := .c g4.length) (g' := g4 ++ [Cell.lst []]) (by simp))).trans ?_
  refine (seq_go (for_go (itl _) lp)).trans ?_
  generalize g4 ++ [Cell.lst longs] = gg at *
  refine (seq_skip (by simp [q0, q1, s1, so', i2])).trans ?_
  refine (seq_skip (by simp [s2, s1, r5, qE])).trans ?_
  refine (seq_skip (by simp [q0, m5, r6, qP, s3])).trans ?_
  exact (if_no (g1 := gg) (by simp [i3])).trans rfl
theorem law_true : ∀ ns : List Int, ns.length ≤ 63 → (∀ z ∈ ns, PySem.Builtin.Int.intBits z ≤ 1048576) → ∃ g, phi_law A [.d (.scr ns)] [] = .ok (.d (.bl true)) g := by
  intro ns hl _
  obtain ⟨c, ep, hc⟩ := pool_ok ns hl
  have er : range1 (consL (cD (.int 4)) (nilL)) [some (.d (.scr ns)), some (.c 1), none, none, none, none, none, none, none, none, none, none, none, none, none, none, none, none] [.dead, c] = .ok (rangeL 0 4) [.dead, c] := range1_at rfl (inR_le (by decide) (by decide))
  have hd : (rangeL 0 4).length = 4 := rangeL_len 4
  have hloop := loopS_inv (nameG 2) (d_law_b6 A) (fun k ρ g => TapeAt 1 (230 * k) g ∧ ∃ y2 y3 y4 y5 y6 y7 y8 y9 y10 y11 y12 y13 y14 y15 y16 y17, ρ = [some (.d (.scr ns)), some (.c 1), y2, y3, y4, y5, y6, y7, y8, y9, y10, y11, y12, y13, y14, y15, y16, y17]) (fun _ _ => False) (rangeL 0 4) [some (.d (.scr ns)), some (.c 1), none, none, none, none, none, none, none, none, none, none, none, none, none, none, none, none] [.dead, c]
    ⟨⟨c, rfl, hc.mono (by rw [hd]; decide)⟩, _, _, _, _, _, _, _, _, _, _, _, _, _, _, _, _, rfl⟩ (fun d hd' k ρ g ⟨T, y2, y3, y4, y5, y6, y7, y8, y9, y10, y11, y12, y13, y14, y15, y16, y17, e⟩ => by
      subst e
      obtain ⟨z3, z4, z5, z6, z7, z8, z9, z10, z11, z12, z13, z14, z15, z16, z17, g2, e, T2⟩ := body_ok A (n := 230 * k) (by rw [show 230 * k + 230 = 230 * (k + 1) by omega]; exact T) (some (.d (.scr ns))) (some (.d d)) y3 y4 y5 y6 y7 y8 y9 y10 y11 y12 y13 y14 y15 y16 y17
      exact ⟨_, rfl, .inl ⟨_, _, e, T2, _, _, _, _, _, _, _, _, _, _, _, _, _, _, _, _, rfl⟩⟩)
  rcases hloop with ⟨ρ2, g2, e2, hT, y2, y3, y4, y5, y6, y7, y8, y9, y10, y11, y12, y13, y14, y15, y16, y17, rfl⟩ | ⟨_, _, _, z⟩
  · refine ⟨g2.take 0, ?_⟩
    refine (defD_rt (g' := g2) (s := .d (.bl true)) ?_).trans rfl
    unfold d_law
    refine (seq_go (asg_go (s := .c 1) (g' := [.dead, c]) ?_)).trans ?_
    · rw [e_pool]
      simp [ep]
    refine (seq_go (for_go er e2)).trans ?_
    exact ret_go rfl
  · exact z.elim
end
end Lk03
open PySem PySem.W PyProof.Rows in
set_option maxRecDepth 100000 in
set_option maxHeartbeats 0 in
theorem PySem.Challenge.cw_turnsneeded_k03_whole_steps_turned_and_s_holds : PySem.Challenge.rw_turnsneeded_k03_whole_steps_turned_and_s.Holds := by
  w_on; o_law; k_head; (case hw => w_witness2)
  k_fill
  refine L2.walk_ofB (l := PySem.Challenge.rw_turnsneeded_k03_whole_steps_turned_and_s) (n := 63) (k := 10) (x := "_law_script") (CX := fun w => L2.CX PySem.Challenge.pw_turnsneeded_k03_whole_steps_turned_and_s w) (sp := fun w => DL.spLaw _) rfl (by decide) rfl ⟨rfl, by decide, by decide⟩ (fun w h Y => PySem.W.kIn_of Y) ?F (fun w H a ns hl hb _ hS => DL.law_end (P := PySem.Challenge.pw_turnsneeded_k03_whole_steps_turned_and_s) (w := w) H a ns hl hb hS) (fun w H s e s' h => DL.cx_end H s e s' h)
  case F =>
    intro w mg fa h KX G hmg
    have q := @Lk03.all_mk PySem.Challenge.pw_turnsneeded_k03_whole_steps_turned_and_s w _ h mg fa KX G hmg
    obtain ⟨fd, hb, hF⟩ : ∃ fd : FuncData, (∀ (s : Shared) (v : Value), BindsTo s fd ⟨[v], []⟩ [("_law_script", v)]) ∧ ∀ base : Heap, _ → base.Ns mainGlobals mg → DL.FnD PySem.Challenge.pw_turnsneeded_k03_whole_steps_turned_and_s w _ mg base 10 fa fd ["_law_script"] (Lk03.phi_law _) := by
      refine' Lk03.all_mk (P := PySem.Challenge.pw_turnsneeded_k03_whole_steps_turned_and_s) (w := w) KX G hmg ?ha_Program ?ha_BadProgram ?ha_NoMatrix ?ha_NoNumber ?ha__law_pool ?hl__law_pool ?hc__law_pool ?hk__law_pool ?ha__law_draw ?hl__law_draw ?hc__law_draw ?hk__law_draw ?ha__law_some ?hl__law_some ?hc__law_some ?hk__law_some ?ha__law_step ?hl__law_step ?hc__law_step ?hk__law_step ?ha__law_parts ?hl__law_parts ?hc__law_parts ?hk__law_parts ?ha_is_integer ?hl_is_integer ?hc_is_integer ?hk_is_integer ?ha_is_within ?hl_is_within ?hc_is_within ?hk_is_within ?ha_is_triple ?hl_is_triple ?hc_is_triple ?hk_is_triple ?ha_are_integers ?hl_are_integers ?hc_are_integers ?hk_are_integers ?ha_are_within ?hl_are_within ?hc_are_within ?hk_are_within ?ha_is_reading ?hl_is_reading ?hc_is_reading ?hk_is_reading ?ha_Program_keep ?hl_Program_keep ?hc_Program_keep ?hk_Program_keep ?hf_Program_keep ?ha_Program___init__ ?hl_Program___init__ ?hc_Program___init__ ?hk_Program___init__ ?hf_Program___init__ ?ha__law_program ?hl__law_program ?hc__law_program ?hk__law_program ?ha__law_doings ?hl__law_doings ?hc__law_doings ?hk__law_doings ?ha__law_plain_matrix ?hl__law_plain_matrix ?hc__law_plain_matrix ?hk__law_plain_matrix ?ha__law_done ?hl__law_done ?hc__law_done ?hk__law_done ?ha__law_matrix ?hl__law_matrix ?hc__law_matrix ?hk__law_matrix ?ha_determinant ?hl_determinant ?hc_determinant ?hk_determinant ?ha_dot ?hl_dot ?hc_dot ?hk_dot ?ha_program_of ?hl_program_of ?hc_program_of ?hk_program_of ?ha_turned ?hl_turned ?hc_turned ?hk_turned ?ha__law_integer ?hl__law_integer ?hc__law_integer ?hk__law_integer ?ha__law_same ?hl__law_same ?hc__law_same ?hk__law_same ?ha__law_is ?hl__law_is ?hc__law_is ?hk__law_is ?ha__law_led ?hl__law_led ?hc__law_led ?hk__law_led ?ha__law_sorted_parts ?hl__law_sorted_parts ?hc__law_sorted_parts ?hk__law_sorted_parts ?ha__law_turned ?hl__law_turned ?hc__law_turned ?hk__law_turned ?ha_Program___eq__ ?hl_Program___eq__ ?hc_Program___eq__ ?hk_Program___eq__ ?hf_Program___eq__ ?ha_check_number ?hl_check_number ?hc_check_number ?hk_check_number ?ha_stretched ?hl_stretched ?hc_stretched ?hk_stretched ?ha_law ?hl_law ?hc_law ?hk_law ?hp1_Program ?hp2_Program ?hp3_Program ?hp4_Program ?hp5_Program ?hp7_Program ?hp8_Program ?hne_Program ?hm_Program ?hq_Program ?hn_Program_readings ?hn_Program_sides ?hn_Program_tables ?hcs ?hct ?hv_MOST_READINGS ?hv_MOST_SIDES ?hv_MOST_STEP ?hv_MOST_TABLES ?hv_MOST_TIMES ?hz_abs ?hz_all ?hz_bool ?hz_enumerate ?hz_int ?hz_isinstance ?hz_len ?hz_list ?hz_range ?hz_set ?hz_sorted ?hz_str ?hz_sum ?hz_tuple ?hz_zip ?xa_BadProgram ?xb_BadProgram ?xc_BadProgram ?xd_BadProgram ?xe_BadProgram ?xf_BadProgram ?xg_BadProgram ?xh_BadProgram ?xi_BadProgram ?xj_BadProgram ?xk_BadProgram ?xl_BadProgram ?xm_BadProgram ?xo_BadProgram ?xp_BadProgram ?xq_BadProgram ?xr_BadProgram ?xs_BadProgram ?xt_BadProgram ?xu_BadProgram ?xv_BadProgram ?xw_BadProgram ?xa_NoMatrix ?xb_NoMatrix ?xc_NoMatrix ?xd_NoMatrix ?xe_NoMatrix ?xf_NoMatrix ?xg_NoMatrix ?xh_NoMatrix ?xi_NoMatrix ?xj_NoMatrix ?xk_NoMatrix ?xl_NoMatrix ?xm_NoMatrix ?xo_NoMatrix ?xp_NoMatrix ?xq_NoMatrix ?xr_NoMatrix ?xs_NoMatrix ?xt_NoMatrix ?xu_NoMatrix ?xv_NoMatrix ?xa_NoNumber ?xb_NoNumber ?xc_NoNumber ?xd_NoNumber ?xe_NoNumber ?xf_NoNumber ?xg_NoNumber ?xh_NoNumber ?xi_NoNumber ?xj_NoNumber ?xk_NoNumber ?xl_NoNumber ?xm_NoNumber ?xo_NoNumber ?xp_NoNumber ?xq_NoNumber ?xr_NoNumber ?xs_NoNumber ?xt_NoNumber ?xu_NoNumber ?xv_NoNumber ?xsup ?xtp ?xtop
      (case ha_Program => k_is)
      (case ha_BadProgram => k_is)
      (case ha_NoMatrix => k_is)
      (case ha_NoNumber => k_is)
      (case ha__law_pool => k_is)
      (case hl__law_pool => k_is)
      (case hc__law_pool => k_is)
      (case hk__law_pool => k_is)
      (case ha__law_draw => k_is)
      (case hl__law_draw => k_is)
      (case hc__law_draw => k_is)
      (case hk__law_draw => k_is)
      (case ha__law_some => k_is)
      (case hl__law_some => k_is)
      (case hc__law_some => k_is)
      (case hk__law_some => k_is)
      (case ha__law_step => k_is)
      (case hl__law_step => k_is)
      (case hc__law_step => k_is)
      (case hk__law_step => k_is)
      (case ha__law_parts => k_is)
      (case hl__law_parts => k_is)
      (case hc__law_parts => k_is)
      (case hk__law_parts => k_is)
      (case ha_is_integer => k_is)
      (case hl_is_integer => k_is)
      (case hc_is_integer => k_is)
      (case hk_is_integer => k_is)
      (case ha_is_within => k_is)
      (case hl_is_within => k_is)
      (case hc_is_within => k_is)
      (case hk_is_within => k_is)
      (case ha_is_triple => k_is)
      (case hl_is_triple => k_is)
      (case hc_is_triple => k_is)
      (case hk_is_triple => k_is)
      (case ha_are_integers => k_is)
      (case hl_are_integers => k_is)
      (case hc_are_integers => k_is)
      (case hk_are_integers => k_is)
      (case ha_are_within => k_is)
      (case hl_are_within => k_is)
      (case hc_are_within => k_is)
      (case hk_are_within => k_is)
      (case ha_is_reading => k_is)
      (case hl_is_reading => k_is)
      (case hc_is_reading => k_is)
      (case hk_is_reading => k_is)
      (case ha_Program_keep => k_is)
      (case hl_Program_keep => k_is)
      (case hc_Program_keep => k_is)
      (case hk_Program_keep => k_is)
      (case hf_Program_keep => k_is)
      (case ha_Program___init__ => k_is)
      (case hl_Program___init__ => k_is)
      (case hc_Program___init__ => k_is)
      (case hk_Program___init__ => k_is)
      (case hf_Program___init__ => k_is)
      (case ha__law_program => k_is)
      (case hl__law_program => k_is)
      (case hc__law_program => k_is)
      (case hk__law_program => k_is)
      (case ha__law_doings => k_is)
      (case hl__law_doings => k_is)
      (case hc__law_doings => k_is)
      (case hk__law_doings => k_is)
      (case ha__law_plain_matrix => k_is)
      (case hl__law_plain_matrix => k_is)
      (case hc__law_plain_matrix => k_is)
      (case hk__law_plain_matrix => k_is)
      (case ha__law_done => k_is)
      (case hl__law_done => k_is)
      (case hc__law_done => k_is)
      (case hk__law_done => k_is)
      (case ha__law_matrix => k_is)
      (case hl__law_matrix => k_is)
      (case hc__law_matrix => k_is)
      (case hk__law_matrix => k_is)
      (case ha_determinant => k_is)
      (case hl_determinant => k_is)
      (case hc_determinant => k_is)
      (case hk_determinant => k_is)
      (case ha_dot => k_is)
      (case hl_dot => k_is)
      (case hc_dot => k_is)
      (case hk_dot => k_is)
      (case ha_program_of => k_is)
      (case hl_program_of => k_is)
      (case hc_program_of => k_is)
      (case hk_program_of => k_is)
      (case ha_turned => k_is)
      (case hl_turned => k_is)
      (case hc_turned => k_is)
      (case hk_turned => k_is)
      (case ha__law_integer => k_is)
      (case hl__law_integer => k_is)
      (case hc__law_integer => k_is)
      (case hk__law_integer => k_is)
      (case ha__law_same => k_is)
      (case hl__law_same => k_is)
      (case hc__law_same => k_is)
      (case hk__law_same => k_is)
      (case ha__law_is => k_is)
      (case hl__law_is => k_is)
      (case hc__law_is => k_is)
      (case hk__law_is => k_is)
      (case ha__law_led => k_is)
      (case hl__law_led => k_is)
      (case hc__law_led => k_is)
      (case hk__law_led => k_is)
      (case ha__law_sorted_parts => k_is)
      (case hl__law_sorted_parts => k_is)
      (case hc__law_sorted_parts => k_is)
      (case hk__law_sorted_parts => k_is)
      (case ha__law_turned => k_is)
      (case hl__law_turned => k_is)
      (case hc__law_turned => k_is)
      (case hk__law_turned => k_is)
      (case ha_Program___eq__ => k_is)
      (case hl_Program___eq__ => k_is)
      (case hc_Program___eq__ => k_is)
      (case hk_Program___eq__ => k_is)
      (case hf_Program___eq__ => k_is)
      (case ha_check_number => k_is)
      (case hl_check_number => k_is)
      (case hc_check_number => k_is)
      (case hk_check_number => k_is)
      (case ha_stretched => k_is)
      (case hl_stretched => k_is)
      (case hc_stretched => k_is)
      (case hk_stretched => k_is)
      (case ha_law => k_is)
      (case hl_law => k_is)
      (case hc_law => k_is)
      (case hk_law => k_is)
      (case hp1_Program => k_is)
      (case hp2_Program => k_is)
      (case hp3_Program => k_is)
      (case hp4_Program => k_is)
      (case hp5_Program => k_is)
      (case hp7_Program => first | k_is | kernel_rfl | rfl)
      (case hp8_Program => k_is)
      (case hne_Program => k_is)
      (case hm_Program => k_is)
      (case hq_Program => k_is)
      (case hn_Program_readings => k_is)
      (case hn_Program_sides => k_is)
      (case hn_Program_tables => k_is)
      (case hcs => k_is)
      (case hct => k_is)
      (case hv_MOST_READINGS => k_is)
      (case hv_MOST_SIDES => k_is)
      (case hv_MOST_STEP => k_is)
      (case hv_MOST_TABLES => k_is)
      (case hv_MOST_TIMES => k_is)
      (case hz_abs => k_is)
      (case hz_all => k_is)
      (case hz_bool => k_is)
      (case hz_enumerate => k_is)
      (case hz_int => k_is)
      (case hz_isinstance => k_is)
      (case hz_len => k_is)
      (case hz_list => k_is)
      (case hz_range => k_is)
      (case hz_set => k_is)
      (case hz_sorted => k_is)
      (case hz_str => k_is)
      (case hz_sum => k_is)
      (case hz_tuple => k_is)
      (case hz_zip => k_is)
      (case xa_BadProgram => k_is)
      (case xb_BadProgram => k_is)
      (case xc_BadProgram => k_is)
      (case xd_BadProgram => k_is)
      (case xe_BadProgram => k_is)
      (case xf_BadProgram => k_is)
      (case xg_BadProgram => k_is)
      (case xh_BadProgram => k_is)
      (case xi_BadProgram => first | k_is | kernel_rfl | rfl)
      (case xj_BadProgram => k_is)
      (case xk_BadProgram => k_is)
      (case xl_BadProgram => first | rfl | kernel_rfl | decide +kernel)
      (case xm_BadProgram => first | rfl | kernel_rfl | decide +kernel)
      (case xo_BadProgram => k_is)
      (case xp_BadProgram => k_is)
      (case xq_BadProgram => k_is)
      (case xr_BadProgram => k_is)
      (case xs_BadProgram => k_is)
      (case xt_BadProgram => k_is)
      (case xu_BadProgram => k_is)
      (case xv_BadProgram => k_is)
      (case xw_BadProgram => k_is)
      (case xa_NoMatrix => k_is)
      (case xb_NoMatrix => k_is)
      (case xc_NoMatrix => k_is)
      (case xd_NoMatrix => k_is)
      (case xe_NoMatrix => k_is)
      (case xf_NoMatrix => k_is)
      (case xg_NoMatrix => k_is)
      (case xh_NoMatrix => k_is)
      (case xi_NoMatrix => first | k_is | kernel_rfl | rfl)
      (case xj_NoMatrix => k_is)
      (case xk_NoMatrix => k_is)
      (case xl_NoMatrix => first | rfl | kernel_rfl | decide +kernel)
      (case xm_NoMatrix => first | rfl | kernel_rfl | decide +kernel)
      (case xo_NoMatrix => k_is)
      (case xp_NoMatrix => k_is)
      (case xq_NoMatrix => k_is)
      (case xr_NoMatrix => k_is)
      (case xs_NoMatrix => k_is)
      (case xt_NoMatrix => k_is)
      (case xu_NoMatrix => k_is)
      (case xv_NoMatrix => k_is)
      (case xa_NoNumber => k_is)
      (case xb_NoNumber => k_is)
      (case xc_NoNumber => k_is)
      (case xd_NoNumber => k_is)
      (case xe_NoNumber => k_is)
      (case xf_NoNumber => k_is)
      (case xg_NoNumber => k_is)
      (case xh_NoNumber => k_is)
      (case xi_NoNumber => first | k_is | kernel_rfl | rfl)
      (case xj_NoNumber => k_is)
      (case xk_NoNumber => k_is)
      (case xl_NoNumber => first | rfl | kernel_rfl | decide +kernel)
      (case xm_NoNumber => first | rfl | kernel_rfl | decide +kernel)
      (case xo_NoNumber => k_is)
      (case xp_NoNumber => k_is)
      (case xq_NoNumber => k_is)
      (case xr_NoNumber => k_is)
      (case xs_NoNumber => k_is)
      (case xt_NoNumber => k_is)
      (case xu_NoNumber => k_is)
      (case xv_NoNumber => k_is)
      (case xsup => k_is)
      (case xtp => k_is)
      (case xtop => first | rfl | kernel_rfl | decide +kernel)
    exact ⟨fd, hb, fun base hK hG => DL.law_imp (hF base hK hG) (Lk03.law_true _)⟩
