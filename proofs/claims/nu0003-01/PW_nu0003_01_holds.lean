import PyProof.Rows.All
import Wide.All
import OpenK.AllK
import Wide.FinOn
import PySem.Challenge.RW_nu0003_01
open PySem PySem.W PyProof.Rows PySem.Calls
set_option Elab.async false
set_option linter.unusedVariables false
set_option maxRecDepth 100000
namespace Mine
/-- an item: an int, or a tuple of ints -/
abbrev It := Sum Int (List Int)
abbrev Store := List (List It)

inductive V where
  | none
  | bool (b : Bool)
  | it (x : It)
  | lst (xs : List It)
  | own (k : Nat)
  | fresh (xs : List It)
abbrev V.int (n : Int) : V := .it (.inl n)
abbrev V.tup (ns : List Int) : V := .it (.inr ns)

inductive All2 {α β : Type} (R : α → β → Prop) : List α → List β → Prop
  | nil : All2 R [] []
  | cons {a : α} {b : β} {as : List α} {bs : List β} : R a b → All2 R as bs → All2 R (a :: as) (b :: bs)

section
variable {α β : Type} {R S : α → β → Prop}
theorem All2.mono {as : List α} {bs : List β} (h : All2 R as bs) (hs : ∀ a b, R a b → S a b) : All2 S as bs := by
  induction h with
  | nil => exact .nil
  | cons h _ ih => exact .cons (hs _ _ h) ih
theorem All2.length {as : List α} {bs : List β} (h : All2 R as bs) : as.length = bs.length := by
  induction h with
  | nil => rfl
  | cons _ _ ih => simp [ih]
theorem All2.append {as as' : List α} {bs bs' : List β} (h : All2 R as bs) (h' : All2 R as' bs') : All2 R (as ++ as') (bs ++ bs') := by
  induction h with
  | nil => exact h'
  | cons h _ ih => exact .cons h ih
theorem All2.get {as : List α} {bs : List β} (h : All2 R as bs) {k : Nat} {b : β} (hb : bs[k]? = some b) : ∃ a, as[k]? = some a ∧ R a b := by
  induction h generalizing k with
  | nil => simp at hb
  | cons h _ ih =>
    cases k with
    | zero => simp at hb; subst hb; exact ⟨_, rfl, h⟩
    | succ k => simp at hb; simpa using ih hb
theorem All2.getL {as : List α} {bs : List β} (h : All2 R as bs) {k : Nat} {a : α} (hb : as[k]? = some a) : ∃ b, bs[k]? = some b ∧ R a b := by
  induction h generalizing k with
  | nil => simp at hb
  | cons h _ ih =>
    cases k with
    | zero => simp at hb; subst hb; exact ⟨_, rfl, h⟩
    | succ k => simp at hb; simpa using ih hb
theorem All2.set {as : List α} {bs : List β} (h : All2 R as bs) {k : Nat} {a : α} {b : β} (ha : as[k]? = some a) (hr : S a b)
    (ho : ∀ (j : Nat) a' b', j ≠ k → as[j]? = some a' → bs[j]? = some b' → R a' b' → S a' b') : All2 S as (bs.set k b) := by
  induction h generalizing k with
  | nil => simp at ha
  | cons h t ih =>
    cases k with
    | zero =>
      simp at ha; subst ha
      refine .cons hr ?_
      have go : ∀ {as : List α} {bs : List β}, All2 R as bs → (∀ (j : Nat) a' b', as[j]? = some a' → bs[j]? = some b' → R a' b' → S a' b') → All2 S as bs := by
        intro as bs h
        induction h with
        | nil => intro _; exact .nil
        | cons h _ ih => intro q; exact .cons (q 0 _ _ rfl rfl h) (ih fun j a' b' x y z => q (j + 1) a' b' (by simpa using x) (by simpa using y) z)
      exact go t fun j a' b' x y z => ho (j + 1) a' b' (by omega) (by simpa using x) (by simpa using y) z
    | succ k =>
      refine .cons (ho 0 _ _ (by omega) rfl rfl h) (ih (by simpa using ha) fun j a' b' hj x y z => ho (j + 1) a' b' (by omega) (by simpa using x) (by simpa using y) z)
theorem All2.take {as : List α} {bs : List β} (h : All2 R as bs) (n : Nat) : All2 R (as.take n) (bs.take n) := by
  induction h generalizing n with
  | nil => simp; exact .nil
  | cons h _ ih => cases n with
    | zero => simp; exact .nil
    | succ n => simp; exact .cons h (ih n)
theorem All2.drop {as : List α} {bs : List β} (h : All2 R as bs) (n : Nat) : All2 R (as.drop n) (bs.drop n) := by
  induction h generalizing n with
  | nil => simp; exact .nil
  | cons h t ih => cases n with
    | zero => simp; exact .cons h t
    | succ n => simp; exact ih n
end

def IntR (v : Value) (n : Int) : Prop := ∃ t, v = .int n t
def ItR (h : Heap) (v : Value) : It → Prop
  | .inl n => IntR v n
  | .inr ns => ∃ a vs, v = .ref a ∧ IsTup h a (List.toArray vs) ∧ All2 IntR vs ns
def LstAt (h : Heap) (a : Addr) (xs : List It) : Prop := ∃ vs, h.PlainList a (List.toArray vs) ∧ All2 (ItR h) vs xs
def Lists (al : List Addr) (h : Heap) : Prop := ∀ a ∈ al, ∃ its, h.IsList a its
/-- a value that a name may hold -/
def VH (al : List Addr) (h : Heap) (v : Value) : V → Prop
  | .none => v = .none
  | .bool b => v = .bool b
  | .it x => ItR h v x
  | .lst xs => ∃ a, v = .ref a ∧ a ∉ al ∧ LstAt h a xs
  | .own k => ∃ a, al[k]? = some a ∧ v = .ref a
  | .fresh _ => False
/-- a value that an expression yields; what is fresh was not there at h0 -/
def VR (al : List Addr) (h h0 : Heap) (v : Value) : V → Prop
  | .fresh xs => ∃ a, v = .ref a ∧ a ∉ al ∧ h0.get? a = none ∧ LstAt h a xs
  | .none => VH al h v .none
  | .bool b => VH al h v (.bool b)
  | .it x => VH al h v (.it x)
  | .lst xs => VH al h v (.lst xs)
  | .own k => VH al h v (.own k)

/-- everything outside of al is kept -/
structure Keep (al : List Addr) (h h' : Heap) : Prop where
  get : ∀ b o, b ∉ al → h.get? b = some o → h'.get? b = some o

theorem Keep.refl (al : List Addr) (h : Heap) : Keep al h h := ⟨fun _ _ _ e => e⟩
theorem Keep.trans {al : List Addr} {h₁ h₂ h₃ : Heap} (x : Keep al h₁ h₂) (y : Keep al h₂ h₃) : Keep al h₁ h₃ :=
  ⟨fun b o hb e => y.get b o hb (x.get b o hb e)⟩
theorem Keep.more {al al' : List Addr} {h h' : Heap} (x : Keep al h h') (hs : ∀ a ∈ al, a ∈ al') : Keep al' h h' :=
  ⟨fun b o hb e => x.get b o (fun q => hb (hs _ q)) e⟩
theorem Keep.push (al : List Addr) (h : Heap) (o : Obj) : Keep al h (h.push o) := ⟨fun b o' _ e => Heap.get?_push_of_some o e⟩
theorem Keep.of_keeps {al : List Addr} {h h' : Heap} (hk : ∀ b o, h.get? b = some o → h'.get? b = some o) : Keep al h h' := ⟨fun b o _ e => hk b o e⟩
theorem Keep.sameBut {al : List Addr} {h h' : Heap} {a : Addr} (hs : Heap.SameBut a h h') (ha : a ∈ al) : Keep al h h' :=
  ⟨fun b o hb e => (hs.2 b (fun q => hb (q ▸ ha))).trans e⟩

theorem IsTup.notIn {h : Heap} {a : Addr} {items : Array Value} {al : List Addr} (t : IsTup h a items) (l : Lists al h) : a ∉ al := fun ha => by
  obtain ⟨its, o, ho, hc, _⟩ := l a ha
  obtain ⟨o', ho', hc', _⟩ := t
  rw [ho] at ho'; cases ho'; rw [hc] at hc'; injection hc' with e; exact absurd e (by decide)

theorem ItR.keep {al : List Addr} {h h' : Heap} {v : Value} (l : Lists al h) (k : Keep al h h') : ∀ {x : It}, ItR h v x → ItR h' v x
  | .inl _, r => r
  | .inr _, ⟨a, vs, e, t, r⟩ => ⟨a, vs, e, (let ⟨o, ho, q⟩ := t; ⟨o, k.get a o (IsTup.notIn t l) ho, q⟩), r⟩
theorem ItR.keeps {h h' : Heap} {v : Value} (k : ∀ b o, h.get? b = some o → h'.get? b = some o) {x : It} (r : ItR h v x) : ItR h' v x := by
  cases x with
  | inl n => exact r
  | inr ns =>
    obtain ⟨a, vs, e, t, r⟩ := r
    exact ⟨a, vs, e, t.keeps k, r⟩
theorem ItsR.keep {al : List Addr} {h h' : Heap} {vs : List Value} {xs : List It} (l : Lists al h) (k : Keep al h h') (r : All2 (ItR h) vs xs) : All2 (ItR h') vs xs :=
  r.mono fun _ _ q => ItR.keep l k q
theorem LstAt.keep {al : List Addr} {h h' : Heap} {a : Addr} {xs : List It} (l : Lists al h) (k : Keep al h h') (ha : a ∉ al) (r : LstAt h a xs) : LstAt h' a xs :=
  let ⟨vs, ⟨n, e⟩, rs⟩ := r
  ⟨vs, ⟨n, k.get a _ ha e⟩, ItsR.keep l k rs⟩
theorem LstAt.lt {h : Heap} {a : Addr} {xs : List It} (r : LstAt h a xs) : a < h.objs.size := let ⟨_, ⟨n, e⟩, _⟩ := r; Heap.lt_size e
theorem LstAt.isList {h : Heap} {a : Addr} {xs : List It} (r : LstAt h a xs) : ∃ its, h.IsList a its := let ⟨_, p, _⟩ := r; ⟨_, p.isList⟩

theorem VH.keep {al : List Addr} {h h' : Heap} {v : Value} (l : Lists al h) (k : Keep al h h') : ∀ {x : V}, VH al h v x → VH al h' v x
  | .none, r => r
  | .bool _, r => r
  | .it _, r => ItR.keep l k r
  | .lst _, ⟨a, e, ha, r⟩ => ⟨a, e, ha, r.keep l k ha⟩
  | .own _, r => r
theorem VR.keep {al : List Addr} {h h' h0 : Heap} {v : Value} (l : Lists al h) (k : Keep al h h') : ∀ {x : V}, VR al h h0 v x → VR al h' h0 v x
  | .none, r => r
  | .bool _, r => r
  | .it _, r => ItR.keep l k r
  | .lst _, ⟨a, e, ha, r⟩ => ⟨a, e, ha, r.keep l k ha⟩
  | .own _, r => r
  | .fresh _, ⟨a, e, ha, hn, r⟩ => ⟨a, e, ha, hn, r.keep l k ha⟩
theorem VR.older {al : List Addr} {h h0 h1 : Heap} {v : Value} (k : Keep al h1 h0) : ∀ {x : V}, VR al h h0 v x → VR al h h1 v x
  | .none, r => r
  | .bool _, r => r
  | .it _, r => r
  | .lst _, r => r
  | .own _, r => r
  | .fresh _, ⟨a, e, ha, hn, r⟩ => ⟨a, e, ha, (by
      cases q : h1.get? a with
      | none => rfl
      | some o => rw [k.get a o ha q] at hn; cases hn), r⟩
theorem VH.vr {al : List Addr} {h h0 : Heap} {v : Value} : ∀ {x : V}, VH al h v x → VR al h h0 v x
  | .none, r => r
  | .bool _, r => r
  | .it _, r => r
  | .lst _, r => r
  | .own _, r => r

/-! the frame's names -/
abbrev Rho := List (Str × Option V)

def Slot (env : Env) (al : List Addr) (h : Heap) (x : Str) (o : Option V) : Prop :=
  (env.kindOf x = some .local ∧ ∀ v, o = some v → ∃ m val, h.Ns env.locals m ∧ m x = some val ∧ VH al h val v) ∨
  (env.kindOf x = some .cell ∧ ∃ c w, env.cells.lookup x = some c ∧ h.IsCell c w ∧ ∀ v, o = some v → ∃ val, w = some val ∧ VH al h val v)

/-- what is known of the frame's own objects -/
structure Own (B : Heap) (env : Env) (h : Heap) : Prop where
  fn : env.scope.kind = .function
  gl : env.globals = mainGlobals
  bi : env.builtins = builtinsNs
  ns : ∃ m, h.Ns env.locals m
  newL : B.get? env.locals = none
  cell : ∀ x c, env.cells.lookup x = some c → B.get? c = none ∧ ∃ w, h.IsCell c w
  inj : ∀ x y c, env.cells.lookup x = some c → env.cells.lookup y = some c → x = y

structure Rel (B : Heap) (env : Env) (ρ : Rho) (O : Store) (al : List Addr) (h : Heap) : Prop where
  base : ∀ b o, B.get? b = some o → h.get? b = some o
  old : ∀ a ∈ al, B.get? a = none
  own : All2 (LstAt h) al O
  nodup : al.Nodup
  me : Own B env h
  names : ∀ x o, (x, o) ∈ ρ → Slot env al h x o
  keys : (ρ.map (·.1)).Nodup

theorem Rel.lists {B : Heap} {env : Env} {ρ : Rho} {O : Store} {al : List Addr} {h : Heap} (r : Rel B env ρ O al h) : Lists al h := fun a ha => by
  obtain ⟨i, hi⟩ := List.mem_iff_getElem?.mp ha
  obtain ⟨xs, _, hx⟩ := r.own.getL hi
  exact hx.isList
theorem ns_notIn {h : Heap} {L : Addr} {m : Str → Option Value} {al : List Addr} (n : h.Ns L m) (l : Lists al h) : L ∉ al := fun ha => by
  obtain ⟨its, o, ho, hc, k, hd⟩ := l L ha
  obtain ⟨o', es, ep, ho', hd', _⟩ := n
  rw [ho] at ho'; cases ho'; rw [hd] at hd'; cases hd'
theorem cell_notIn {h : Heap} {c : Addr} {w : Option Value} {al : List Addr} (n : h.IsCell c w) (l : Lists al h) : c ∉ al := fun ha => by
  obtain ⟨its, o, ho, hc, k, hd⟩ := l c ha
  obtain ⟨o', ho', hd'⟩ := n
  rw [ho] at ho'; cases ho'; rw [hd] at hd'; cases hd'
theorem cell_ns {h : Heap} {c L : Addr} {w : Option Value} {m : Str → Option Value} (n : h.IsCell c w) (k : h.Ns L m) : c ≠ L := fun e => by
  subst e
  obtain ⟨o', ho', hd'⟩ := n
  obtain ⟨o, es, ep, ho, hd, _⟩ := k
  rw [ho] at ho'; cases ho'; rw [hd] at hd'; cases hd'
theorem IsCell.keep {al : List Addr} {h h' : Heap} {c : Addr} {w : Option Value} (l : Lists al h) (k : Keep al h h') (n : h.IsCell c w) : h'.IsCell c w := by
  have hn := cell_notIn n l
  obtain ⟨o, ho, hd⟩ := n
  exact ⟨o, k.get c o hn ho, hd⟩
theorem Ns.keep {al : List Addr} {h h' : Heap} {L : Addr} {m : Str → Option Value} (l : Lists al h) (k : Keep al h h') (n : h.Ns L m) : h'.Ns L m := by
  have hn := ns_notIn n l
  obtain ⟨o, es, ep, ho, q⟩ := n
  exact ⟨o, es, ep, k.get L o hn ho, q⟩
theorem Slot.keep {env : Env} {al : List Addr} {h h' : Heap} {x : Str} {o : Option V} (l : Lists al h) (k : Keep al h h') : Slot env al h x o → Slot env al h' x o
  | .inl ⟨a, q⟩ => .inl ⟨a, fun v hv => let ⟨m, val, n, e, r⟩ := q v hv; ⟨m, val, Ns.keep l k n, e, r.keep l k⟩⟩
  | .inr ⟨a, c, w, e, n, q⟩ => .inr ⟨a, c, w, e, IsCell.keep l k n, fun v hv => let ⟨val, e, r⟩ := q v hv; ⟨val, e, r.keep l k⟩⟩
theorem Own.keep {B : Heap} {env : Env} {al : List Addr} {h h' : Heap} (l : Lists al h) (k : Keep al h h') (r : Own B env h) : Own B env h' :=
  ⟨r.fn, r.gl, r.bi, let ⟨m, n⟩ := r.ns; ⟨m, Ns.keep l k n⟩, r.newL, fun x c e => ⟨(r.cell x c e).1, let ⟨w, n⟩ := (r.cell x c e).2; ⟨w, IsCell.keep l k n⟩⟩, r.inj⟩
/-- the own lists may be others, the rest is kept -/
theorem Rel.keep {B : Heap} {env : Env} {ρ : Rho} {O O' : Store} {al : List Addr} {h h' : Heap} (r : Rel B env ρ O al h) (k : Keep al h h') (own : All2 (LstAt h') al O') : Rel B env ρ O' al h' where
  base b o e := k.get b o (fun q => by rw [r.old b q] at e; cases e) (r.base b o e)
  old := r.old
  own := own
  nodup := r.nodup
  me := r.me.keep r.lists k
  names x o hx := (r.names x o hx).keep r.lists k
  keys := r.keys
theorem Rel.keeps {B : Heap} {env : Env} {ρ : Rho} {O : Store} {al : List Addr} {h h' : Heap} (r : Rel B env ρ O al h) (k : ∀ b o, h.get? b = some o → h'.get? b = some o) : Rel B env ρ O al h' :=
  r.keep (.of_keeps k) (r.own.mono fun _ _ ⟨vs, ⟨n, e⟩, s⟩ => ⟨vs, ⟨n, k _ _ e⟩, s.mono fun _ _ t => t.keeps k⟩)

section
variable (prog : Program) (w : World) (B : Heap)

/-- a tree that yields a value -/
def WX (A : Around) (env : Env) (t : Sem Value) (ρ : Rho) (O : Store) (K : V → Store → Prop) : Prop :=
  ∀ (al : List Addr) (s : Shared), Rel B env ρ O al s.heap → ∀ (Q E : Value → Shared → Prop),
    (∀ v val O' h' tk, K v O' → Rel B env ρ O' al h' → Keep al s.heap h' → VR al h' s.heap val v → Q val { s with heap := h', toks := tk }) →
    wpAny (model prog w) A t Q E s
abbrev WE (A : Around) (env : Env) (e : Expr) (ρ : Rho) (O : Store) (K : V → Store → Prop) : Prop := WX prog w B A env (eval e env) ρ O K
def WT (A : Around) (env : Env) (e : Expr) (ρ : Rho) (O : Store) (K : Bool → Store → Prop) : Prop :=
  ∀ (al : List Addr) (s : Shared), Rel B env ρ O al s.heap → ∀ (Q : Bool → Shared → Prop) (E : Value → Shared → Prop),
    (∀ b O' h' tk, K b O' → Rel B env ρ O' al h' → Keep al s.heap h' → Q b { s with heap := h', toks := tk }) →
    wpAny (model prog w) A (isTrue e env (eval e env)) Q E s

/-- values of a list of expressions; each fresh one newer than what stood before -/
inductive AllF (al : List Addr) (h : Heap) : Heap → List Value → List V → Prop
  | nil (n : Heap) : AllF al h n [] []
  | cons {n n1 : Heap} {v : Value} {x : V} {vs : List Value} {xs : List V} : VR al h n v x → Keep al n n1 → (∀ a, v = .ref a → ∃ o, n1.get? a = some o) → AllF al h n1 vs xs → AllF al h n (v :: vs) (x :: xs)

def WL (A : Around) (env : Env) (pos : Pos) (es : List Expr) (ρ : Rho) (O : Store) (K : List V → Store → Prop) : Prop :=
  ∀ (al : List Addr) (s : Shared), Rel B env ρ O al s.heap → ∀ (Q : List Value → Shared → Prop) (E : Value → Shared → Prop),
    (∀ vs vals O' h' tk, K vs O' → Rel B env ρ O' al h' → Keep al s.heap h' → AllF al h' s.heap vals vs → Q vals { s with heap := h', toks := tk }) →
    wpAny (model prog w) A (spliced (backTo pos (starEach es env))) Q E s

def Op2 (A : Around) (O : Store) (t : Value → Value → Sem Value) (a b : V) (C : V → Prop) : Prop :=
  ∀ (env : Env) (ρ : Rho) (al : List Addr) (s : Shared) (h0 : Heap) (va vb : Value), Rel B env ρ O al s.heap → VR al s.heap h0 va a → VR al s.heap h0 vb b → ∀ (Q E : Value → Shared → Prop),
    (∀ c vc h' tk, C c → Rel B env ρ O al h' → Keep al s.heap h' → VR al h' s.heap vc c → Q vc { s with heap := h', toks := tk }) →
    wpAny (model prog w) A (t va vb) Q E s
end

section
variable {prog : Program} {w : World} {B : Heap} {A : Around} {env : Env} {ρ : Rho} {O : Store}

theorem VR.there {al : List Addr} {h h0 : Heap} {x : V} {v : Value} (l : Lists al h) (r : VR al h h0 v x) (a : Addr) (e : v = .ref a) : ∃ o, h.get? a = some o := by
  subst e
  cases x with
  | none => cases r
  | bool b => cases r
  | it x =>
    cases x with
    | inl n => obtain ⟨t, e⟩ := r; cases e
    | inr ns => obtain ⟨a', vs, e, ⟨o, ho, _⟩, _⟩ := r; cases e; exact ⟨o, ho⟩
  | lst xs => obtain ⟨a', e, _, _, ⟨_, ho⟩, _⟩ := r; cases e; exact ⟨_, ho⟩
  | own k => obtain ⟨a', e, e'⟩ := r; cases e'; obtain ⟨its, o, ho, _⟩ := l _ (List.mem_of_getElem? e); exact ⟨o, ho⟩
  | fresh xs => obtain ⟨a', e, _, _, _, ⟨_, ho⟩, _⟩ := r; cases e; exact ⟨_, ho⟩
theorem AllF.keep {al : List Addr} {h h' : Heap} (l : Lists al h) (k : Keep al h h') {n : Heap} {vs : List Value} {xs : List V} (r : AllF al h n vs xs) : AllF al h' n vs xs := by
  induction r with
  | nil n => exact .nil n
  | cons a b c _ ih => exact .cons (a.keep l k) b c ih

theorem Keep.fresh {al : List Addr} {h h' : Heap} (k : Keep al h h') (l : Lists al h') : h.get? h'.objs.size = none := by
  cases q : h.get? h'.objs.size with
  | none => rfl
  | some o =>
    by_cases hm : h'.objs.size ∈ al
    · obtain ⟨its, o, ho, _⟩ := l _ hm
      exact absurd (Heap.lt_size ho) (Nat.lt_irrefl _)
    · exact absurd (Heap.lt_size (k.get _ o hm q)) (Nat.lt_irrefl _)
theorem WX.mono {t : Sem Value} {K K' : V → Store → Prop} (h : WX prog w B A env t ρ O K) (hk : ∀ v O, K v O → K' v O) : WX prog w B A env t ρ O K' :=
  fun al s R Q E q => h al s R Q E fun v val O' h' tk k => q v val O' h' tk (hk _ _ k)
theorem WT.mono {e : Expr} {K K' : Bool → Store → Prop} (h : WT prog w B A env e ρ O K) (hk : ∀ v O, K v O → K' v O) : WT prog w B A env e ρ O K' :=
  fun al s R Q E q => h al s R Q E fun v O' h' tk k => q v O' h' tk (hk _ _ k)

theorem WE_int {i : Int} {k : Nat} {pos : Pos} {K : V → Store → Prop} (h : K (.int i) O) : WE prog w B A env (.Constant (.int i) k pos) ρ O K :=
  fun al s R Q E q => wpAny_Constant_int (q _ _ _ s.heap _ h R (.refl ..) ⟨_, rfl⟩)
theorem WE_none {k : Nat} {pos : Pos} {K : V → Store → Prop} (h : K .none O) : WE prog w B A env (.Constant .none k pos) ρ O K :=
  fun al s R Q E q => Constant_none (q _ _ _ s.heap s.toks h R (.refl ..) rfl)
theorem WE_bool {b : Bool} {k : Nat} {pos : Pos} {K : V → Store → Prop} (h : K (.bool b) O) : WE prog w B A env (.Constant (.bool b) k pos) ρ O K :=
  fun al s R Q E q => Constant_bool (q _ _ _ s.heap s.toks h R (.refl ..) rfl)

theorem WE_Name {x : Str} {pos : Pos} {v : V} {K : V → Store → Prop} (hx : (x, some v) ∈ ρ) (h : K v O) (hd : (x == ("__debug__" : Str)) = false := by decide) :
    WE prog w B A env (.Name x pos) ρ O K := fun al s R Q E q => by
  rcases R.names _ _ hx with ⟨hk, hl⟩ | ⟨hk, c, w, hc, hi, hl⟩
  · obtain ⟨m, val, hn, hm, hr⟩ := hl v rfl
    exact wpAny_Name (wpAny_loadName_local R.me.fn hk hn hm (q _ _ _ s.heap s.toks h R (.refl ..) hr.vr)) hd
  · obtain ⟨val, rfl, hr⟩ := hl v rfl
    exact wpAny_Name (wpAny_loadName_cell R.me.fn hk hc hi (q _ _ _ s.heap s.toks h R (.refl ..) hr.vr)) hd

theorem WL_nil {pos : Pos} {K : List V → Store → Prop} (h : K [] O) : WL prog w B A env pos [] ρ O K :=
  fun al s R Q E q => args_nil (q _ _ _ s.heap s.toks h R (.refl ..) (.nil _))
theorem WL_cons {pos : Pos} {e : Expr} {es : List Expr} {K : List V → Store → Prop} (h : WE prog w B A env e ρ O (fun v O₁ => WL prog w B A env pos es ρ O₁ (fun vs O₂ => K (v :: vs) O₂)))
    (he : starEach (e :: es) env = (false, eval e env) :: starEach es env := by rfl) : WL prog w B A env pos (e :: es) ρ O K := fun al s R Q E q => by
  refine args_cons (h al s R _ _ fun v val O₁ h₁ tk₁ hk R₁ K₁ r₁ => ?_) he
  refine hk al { s with heap := h₁, toks := tk₁ } R₁ _ _ fun vs vals O₂ h₂ tk₂ hk₂ R₂ K₂ r₂ => ?_
  exact q _ _ O₂ h₂ tk₂ hk₂ R₂ (K₁.trans K₂) (.cons (r₁.keep R₁.lists K₂) K₁ (fun a e => r₁.there R₁.lists a e) r₂)

inductive IntsOf : List V → List Int → Prop
  | nil : IntsOf [] []
  | cons {n : Int} {vs : List V} {ns : List Int} : IntsOf vs ns → IntsOf (.int n :: vs) (n :: ns)
inductive ItsOf : List V → List It → Prop
  | nil : ItsOf [] []
  | cons {n : It} {vs : List V} {ns : List It} : ItsOf vs ns → ItsOf (.it n :: vs) (n :: ns)
theorem AllF.ints {al : List Addr} {h n : Heap} {vals : List Value} {vs : List V} {ns : List Int} (r : AllF al h n vals vs) (i : IntsOf vs ns) : All2 IntR vals ns := by
  induction r generalizing ns with
  | nil => cases i; exact .nil
  | cons a _ _ _ ih => cases i with | cons i => exact .cons a (ih i)
theorem AllF.its {al : List Addr} {h n : Heap} {vals : List Value} {vs : List V} {ns : List It} (r : AllF al h n vals vs) (i : ItsOf vs ns) : All2 (ItR h) vals ns := by
  induction r generalizing ns with
  | nil => cases i; exact .nil
  | cons a _ _ _ ih => cases i with | cons i => exact .cons a (ih i)

theorem WE_Tuple {es : List Expr} {k : Nat} {pos : Pos} {K : V → Store → Prop} (h : WL prog w B A env pos es ρ O (fun vs O' => ∃ ns, IntsOf vs ns ∧ ns.length ≤ 64 ∧ K (.tup ns) O')) :
    WE prog w B A env (.Tuple es k pos) ρ O K := fun al s R Q E q => by
  refine Tuple_ (h al s R _ _ fun vs vals O' h' tk hk R' K' r => ?_)
  obtain ⟨ns, hi, hz, hk⟩ := hk
  have ha := r.ints hi
  refine wpAny_newObj_type ?_ (by show vals.toArray.size ≤ _; rw [List.size_toArray, ha.length, sizeLine_eq]; omega)
  refine q _ _ O' (h'.push _) tk hk (R'.keeps fun b o e => Heap.get?_push_of_some _ e) (K'.trans (.push ..)) ?_
  exact ⟨_, vals, rfl, IsTup.new _ _, ha⟩

theorem WE_List {es : List Expr} {pos : Pos} {K : V → Store → Prop} (h : WL prog w B A env pos es ρ O (fun vs O' => ∃ xs, ItsOf vs xs ∧ xs.length ≤ 64 ∧ K (.fresh xs) O')) :
    WE prog w B A env (.List es pos) ρ O K := fun al s R Q E q => by
  refine List_ (h al s R _ _ fun vs vals O' h' tk hk R' K' r => ?_)
  obtain ⟨xs, hi, hz, hk⟩ := hk
  have ha := r.its hi
  refine wpAny_newObj_type ?_ (by show vals.toArray.size ≤ _; rw [List.size_toArray, ha.length, sizeLine_eq]; omega)
  refine q _ _ O' (h'.push _) tk hk (R'.keeps fun b o e => Heap.get?_push_of_some _ e) (K'.trans (.push ..)) ?_
  refine ⟨_, rfl, fun hm => ?_, Keep.fresh K' R'.lists, vals, ⟨0, Heap.get?_push_size _ rfl⟩, ha.mono fun _ _ t => t.keeps fun b o e => Heap.get?_push_of_some _ e⟩
  obtain ⟨its, o, ho, _⟩ := R'.lists _ hm
  exact absurd (Heap.lt_size ho) (Nat.lt_irrefl _)

theorem WE_BinOp {l r : Expr} {op : Operator} {pos : Pos} {K : V → Store → Prop}
    (h : WE prog w B A env l ρ O (fun a O₁ => WE prog w B A env r ρ O₁ (fun b O₂ => Op2 prog w B A O₂ (binaryOp op) a b (fun c => K c O₂)))) : WE prog w B A env (.BinOp l op r pos) ρ O K := fun al s R Q E q => by
  refine wpAny_BinOp (h al s R _ _ fun a va O₁ h₁ tk₁ hk R₁ K₁ r₁ => ?_)
  refine hk al { s with heap := h₁, toks := tk₁ } R₁ _ _ fun b vb O₂ h₂ tk₂ hk₂ R₂ K₂ r₂ => ?_
  refine hk₂ env ρ al { s with heap := h₂, toks := tk₂ } s.heap va vb R₂ (r₁.keep R₁.lists K₂) (r₂.older K₁) _ _ fun c vc h' tk hc R' K' r' => ?_
  exact q c vc O₂ h' tk hc R' (K₁.trans (K₂.trans K')) (r'.older (K₁.trans K₂))
theorem WE_Compare {l r : Expr} {op : CmpOp} {pos : Pos} {K : V → Store → Prop}
    (h : WE prog w B A env l ρ O (fun a O₁ => WE prog w B A env r ρ O₁ (fun b O₂ => Op2 prog w B A O₂ (compareOp op) a b (fun c => K c O₂)))) (hm : behindInMarks op r = false := by with_unfolding_all rfl) :
    WE prog w B A env (.Compare l [op] [r] pos) ρ O K := fun al s R Q E q => by
  refine wpAny_Compare1 (h al s R _ _ fun a va O₁ h₁ tk₁ hk R₁ K₁ r₁ => ?_) hm
  refine hk al { s with heap := h₁, toks := tk₁ } R₁ _ _ fun b vb O₂ h₂ tk₂ hk₂ R₂ K₂ r₂ => ?_
  refine hk₂ env ρ al { s with heap := h₂, toks := tk₂ } s.heap va vb R₂ (r₁.keep R₁.lists K₂) (r₂.older K₁) _ _ fun c vc h' tk hc R' K' r' => ?_
  exact q c vc O₂ h' tk hc R' (K₁.trans (K₂.trans K')) (r'.older (K₁.trans K₂))
/-- the value is a bool and its truth is asked -/
def AsB (C : Bool → Prop) (v : V) : Prop := ∃ b, v = .bool b ∧ C b
theorem asB {C : Bool → Prop} {b : Bool} (h : C b) : AsB C (.bool b) := ⟨b, rfl, h⟩

theorem WT_Compare {l r : Expr} {op : CmpOp} {pos : Pos} {K : Bool → Store → Prop}
    (h : WE prog w B A env l ρ O (fun a O₁ => WE prog w B A env r ρ O₁ (fun b O₂ => Op2 prog w B A O₂ (compareOp op) a b (AsB fun c => K c O₂)))) (hm : behindInMarks op r = false := by with_unfolding_all rfl) :
    WT prog w B A env (.Compare l [op] [r] pos) ρ O K := fun al s R Q E q => by
  refine wpAny_isTrue_Compare1 (h al s R _ _ fun a va O₁ h₁ tk₁ hk R₁ K₁ r₁ => ?_) hm
  refine hk al { s with heap := h₁, toks := tk₁ } R₁ _ _ fun b vb O₂ h₂ tk₂ hk₂ R₂ K₂ r₂ => ?_
  refine hk₂ env ρ al { s with heap := h₂, toks := tk₂ } s.heap va vb R₂ (r₁.keep R₁.lists K₂) (r₂.older K₁) _ _ fun c vc h' tk hc R' K' r' => ?_
  obtain ⟨b, rfl, hb⟩ := hc
  have e : vc = .bool b := r'
  subst e
  exact wpAny_truthy_bool (q b O₂ h' tk hb R' (K₁.trans (K₂.trans K')))
theorem WT_val {e : Expr} {K : Bool → Store → Prop} (h : WE prog w B A env e ρ O (fun v O' => AsB (fun b => K b O') v))
    (he : isTrue e env (eval e env) = (do let v ← eval e env; standAt e.pos; holding [v] (truthy v)) := by rfl) : WT prog w B A env e ρ O K := fun al s R Q E q => by
  refine isTrue_plain (h al s R _ _ fun a va O₁ h₁ tk₁ hk R₁ K₁ r₁ => ?_) he
  obtain ⟨b, rfl, hb⟩ := hk
  have e : va = .bool b := r₁
  subst e
  exact wpAny_truthy_bool (q b O₁ h₁ tk₁ hb R₁ K₁)
theorem WT_not {e : Expr} {pos : Pos} {K : Bool → Store → Prop} (h : WT prog w B A env e ρ O (fun b O' => K (!b) O')) : WT prog w B A env (.UnaryOp .Not e pos) ρ O K := fun al s R Q E q =>
  isTrue_not (h al s R _ _ fun b O' h' tk hk R' K' => q _ O' h' tk hk R' K')
theorem WT_and_nil {pos : Pos} {K : Bool → Store → Prop} (h : K true O) : WT prog w B A env (.BoolOp .And [] pos) ρ O K := fun al s R Q E q => isTrue_and_nil (q _ _ s.heap s.toks h R (.refl ..))
theorem WT_or_nil {pos : Pos} {K : Bool → Store → Prop} (h : K false O) : WT prog w B A env (.BoolOp .Or [] pos) ρ O K := fun al s R Q E q => isTrue_or_nil (q _ _ s.heap s.toks h R (.refl ..))
theorem WT_and {e : Expr} {es : List Expr} {pos : Pos} {K : Bool → Store → Prop} (h : WT prog w B A env e ρ O (fun b O' => (b = true → WT prog w B A env (.BoolOp .And es pos) ρ O' K) ∧ (b = false → K false O'))) :
    WT prog w B A env (.BoolOp .And (e :: es) pos) ρ O K := fun al s R Q E q => by
  refine isTrue_and (h al s R _ _ fun b O' h' tk hk R' K' => ?_)
  cases b with
  | true =>
    simp only [if_true]
    exact hk.1 rfl al { s with heap := h', toks := tk } R' _ _ fun b O₂ h₂ tk₂ hk₂ R₂ K₂ => q b O₂ h₂ tk₂ hk₂ R₂ (K'.trans K₂)
  | false =>
    simp only [Bool.false_eq_true, if_false]
    exact q false O' h' tk (hk.2 rfl) R' K'
theorem WT_or {e : Expr} {es : List Expr} {pos : Pos} {K : Bool → Store → Prop} (h : WT prog w B A env e ρ O (fun b O' => (b = false → WT prog w B A env (.BoolOp .Or es pos) ρ O' K) ∧ (b = true → K true O'))) :
    WT prog w B A env (.BoolOp .Or (e :: es) pos) ρ O K := fun al s R Q E q => by
  refine isTrue_or (h al s R _ _ fun b O' h' tk hk R' K' => ?_)
  cases b with
  | false =>
    simp only [Bool.false_eq_true, if_false]
    exact hk.1 rfl al { s with heap := h', toks := tk } R' _ _ fun b O₂ h₂ tk₂ hk₂ R₂ K₂ => q b O₂ h₂ tk₂ hk₂ R₂ (K'.trans K₂)
  | true =>
    simp only [if_true]
    exact q true O' h' tk (hk.2 rfl) R' K'
theorem WE_one {op : BoolOp} {e : Expr} {pos : Pos} {K : V → Store → Prop} (h : WE prog w B A env e ρ O K) : WE prog w B A env (.BoolOp op [e] pos) ρ O K := fun al s R Q E q => BoolOp_one (h al s R Q E q)
theorem WE_and {e e₂ : Expr} {es : List Expr} {pos : Pos} {K : V → Store → Prop} (h : WE prog w B A env e ρ O (fun v O' => AsB (fun b => (b = true → WE prog w B A env (.BoolOp .And (e₂ :: es) pos) ρ O' K) ∧ (b = false → K (.bool false) O')) v)) :
    WE prog w B A env (.BoolOp .And (e :: e₂ :: es) pos) ρ O K := fun al s R Q E q => by
  refine BoolOp_and (h al s R _ _ fun v val O' h' tk hk R' K' r => ?_)
  obtain ⟨b, rfl, hk⟩ := hk
  have e : val = .bool b := r
  subst e
  refine wpAny_truthy_bool ?_
  cases b with
  | true =>
    simp only [if_true]
    exact hk.1 rfl al { s with heap := h', toks := tk } R' _ _ fun b vb O₂ h₂ tk₂ hk₂ R₂ K₂ r₂ => q b vb O₂ h₂ tk₂ hk₂ R₂ (K'.trans K₂) (r₂.older K')
  | false =>
    simp only [Bool.false_eq_true, if_false]
    exact q _ _ O' h' tk (hk.2 rfl) R' K' rfl
theorem WE_IfExp {t a b : Expr} {pos : Pos} {K : V → Store → Prop} (h : WT prog w B A env t ρ O (fun c O' => (c = true → WE prog w B A env a ρ O' K) ∧ (c = false → WE prog w B A env b ρ O' K))) :
    WE prog w B A env (.IfExp t a b pos) ρ O K := fun al s R Q E q => by
  refine IfExp_ (h al s R _ _ fun c O' h' tk hk R' K' => ?_)
  cases c with
  | true =>
    simp only [if_true]
    exact hk.1 rfl al { s with heap := h', toks := tk } R' _ _ fun b vb O₂ h₂ tk₂ hk₂ R₂ K₂ r₂ => q b vb O₂ h₂ tk₂ hk₂ R₂ (K'.trans K₂) (r₂.older K')
  | false =>
    simp only [Bool.false_eq_true, if_false]
    exact hk.2 rfl al { s with heap := h', toks := tk } R' _ _ fun b vb O₂ h₂ tk₂ hk₂ R₂ K₂ r₂ => q b vb O₂ h₂ tk₂ hk₂ R₂ (K'.trans K₂) (r₂.older K')
theorem WE_neg {e : Expr} {pos : Pos} {K : V → Store → Prop} (h : WE prog w B A env e ρ O (fun v O' => ∃ n, v = .int n ∧ K (.int (-n)) O')) : WE prog w B A env (.UnaryOp .USub e pos) ρ O K := fun al s R Q E q => by
  refine UnaryOp_ (h al s R _ _ fun v val O' h' tk hk R' K' r => ?_)
  obtain ⟨n, rfl, hk⟩ := hk
  obtain ⟨t, rfl⟩ := r
  exact neg_int (q _ _ O' h' _ hk R' K' ⟨_, rfl⟩)

/-! operations -/
theorem Op2.ints {t : Value → Value → Sem Value} {x y : Int} {C : V → Prop}
    (h : ∀ tx ty (s : Shared) (Q E : Value → Shared → Prop), (∀ c vc tk, C c → (∀ al h n, VR al h n vc c) → Q vc { s with toks := tk }) → wpAny (model prog w) A (t (.int x tx) (.int y ty)) Q E s) :
    Op2 prog w B A O t (.int x) (.int y) C := fun env ρ al s h0 va vb R ra rb Q E q => by
  obtain ⟨tx, rfl⟩ := ra
  obtain ⟨ty, rfl⟩ := rb
  exact h tx ty s Q E fun c vc tk hc hr => q c vc s.heap tk hc R (.refl ..) (hr _ _ _)
theorem Op_add {x y : Int} {C : V → Prop} (h : C (.int (x + y))) : Op2 prog w B A O (binaryOp .Add) (.int x) (.int y) C := .ints fun tx ty s Q E q => add_int (q _ _ _ h fun _ _ _ => ⟨_, rfl⟩)
theorem Op_sub {x y : Int} {C : V → Prop} (h : C (.int (x - y))) : Op2 prog w B A O (binaryOp .Sub) (.int x) (.int y) C := .ints fun tx ty s Q E q => sub_int (q _ _ _ h fun _ _ _ => ⟨_, rfl⟩)
theorem Op_mul {x y : Int} {C : V → Prop} (h : C (.int (x * y))) (hm : IntMulOk x y) : Op2 prog w B A O (binaryOp .Mult) (.int x) (.int y) C := .ints fun tx ty s Q E q => mul_int (q _ _ _ h fun _ _ _ => ⟨_, rfl⟩) hm
theorem Op_mod {x y : Int} {C : V → Prop} (hy : y ≠ 0) (h : C (.int (x.fmod y))) : Op2 prog w B A O (binaryOp .Mod) (.int x) (.int y) C := .ints fun tx ty s Q E q => mod_int' hy (q _ _ _ h fun _ _ _ => ⟨_, rfl⟩)
theorem Op_div {x y : Int} {C : V → Prop} (hy : y ≠ 0) (h : C (.int (x.fdiv y))) (hp : Builtin.divisionGoesByPylong x y = false) : Op2 prog w B A O (binaryOp .FloorDiv) (.int x) (.int y) C := .ints fun tx ty s Q E q => floordiv_int hy (q _ _ _ h fun _ _ _ => ⟨_, rfl⟩) (.inl hp)
theorem Op_lt {x y : Int} {C : V → Prop} (h : C (.bool (decide (x < y)))) : Op2 prog w B A O (compareOp .Lt) (.int x) (.int y) C := .ints fun tx ty s Q E q => lt_int (q _ _ s.toks h fun _ _ _ => rfl)
theorem Op_le {x y : Int} {C : V → Prop} (h : C (.bool (decide (x ≤ y)))) : Op2 prog w B A O (compareOp .LtE) (.int x) (.int y) C := .ints fun tx ty s Q E q => le_int (q _ _ s.toks h fun _ _ _ => rfl)
theorem Op_gt {x y : Int} {C : V → Prop} (h : C (.bool (decide (y < x)))) : Op2 prog w B A O (compareOp .Gt) (.int x) (.int y) C := .ints fun tx ty s Q E q => gt_int (q _ _ s.toks h fun _ _ _ => rfl)
theorem Op_ge {x y : Int} {C : V → Prop} (h : C (.bool (decide (y ≤ x)))) : Op2 prog w B A O (compareOp .GtE) (.int x) (.int y) C := .ints fun tx ty s Q E q => ge_int (q _ _ s.toks h fun _ _ _ => rfl)
theorem Op_eq {x y : Int} {C : V → Prop} (h : C (.bool (x == y))) : Op2 prog w B A O (compareOp .Eq) (.int x) (.int y) C := .ints fun tx ty s Q E q => eq_int (q _ _ s.toks h fun _ _ _ => rfl)
theorem Op_ne_bool {x y : Bool} {C : V → Prop} (h : C (.bool (x != y))) : Op2 prog w B A O (compareOp .NotEq) (.bool x) (.bool y) C := fun env ρ al s h0 va vb R ra rb Q E q => by
  have ea : va = .bool x := ra
  have eb : vb = .bool y := rb
  subst ea; subst eb
  exact ne_bool (q _ _ s.heap s.toks h R (.refl ..) rfl)
end

/-! data, compared -/
def toDat : It → Dat
  | .inl n => .int n
  | .inr ns => .tuple (ns.map Dat.int)
theorem ints_inj : ∀ {a b : List Int}, a.map Dat.int = b.map Dat.int → a = b
  | [], [], _ => rfl
  | [], _ :: _, h => by cases h
  | _ :: _, [], h => by cases h
  | x :: a, y :: b, h => by
    simp only [List.map_cons, List.cons.injEq, Dat.int.injEq] at h
    rw [h.1, ints_inj h.2]
theorem toDat_inj : ∀ {a b : It}, toDat a = toDat b → a = b
  | .inl _, .inl _, h => by injection h with h; rw [h]
  | .inl _, .inr _, h => by cases h
  | .inr _, .inl _, h => by cases h
  | .inr _, .inr _, h => by injection h with h; rw [ints_inj h]
theorem toDats_inj : ∀ {a b : List It}, a.map toDat = b.map toDat → a = b
  | [], [], _ => rfl
  | [], _ :: _, h => by cases h
  | _ :: _, [], h => by cases h
  | x :: a, y :: b, h => by
    simp only [List.map_cons, List.cons.injEq] at h
    rw [toDat_inj h.1, toDats_inj h.2]
theorem reads_ints {h : Heap} : ∀ {vs : List Value} {ns : List Int}, All2 IntR vs ns → ∃ as, ReadsAll h vs (kqdPs (ns.map Dat.int)) as
  | _, _, .nil => ⟨_, .nil⟩
  | _, _, .cons ⟨t, e⟩ r => by
    subst e
    obtain ⟨as, q⟩ := reads_ints (h := h) r
    exact ⟨_, by rw [List.map_cons, kqdPs]; exact .cons (.int _ t) q⟩
theorem reads_it {h : Heap} {v : Value} : ∀ {x : It}, ItR h v x → ∃ as, Reads h v (kqdP (toDat x)) as
  | .inl n, ⟨t, e⟩ => by subst e; exact ⟨_, .int _ t⟩
  | .inr ns, ⟨a, vs, e, ⟨o, ho, hc, k, hd⟩, r⟩ => by
    subst e
    obtain ⟨as, q⟩ := reads_ints (h := h) r
    exact ⟨as, by rw [toDat, kqdP]; exact reads_tuple_at ho hc hd (by simpa using q)⟩
theorem reads_its {h : Heap} : ∀ {vs : List Value} {xs : List It}, All2 (ItR h) vs xs → ∃ as, ReadsAll h vs (kqdPs (xs.map toDat)) as
  | _, _, .nil => ⟨_, .nil⟩
  | _, _, .cons e r => by
    obtain ⟨bs, p⟩ := reads_it e
    obtain ⟨as, q⟩ := reads_its r
    exact ⟨_, by rw [List.map_cons, kqdPs]; exact .cons p q⟩
theorem reads_lst {h : Heap} {a : Addr} {xs : List It} (r : LstAt h a xs) : ∃ as, Reads h (.ref a) (kqdP (.list (xs.map toDat))) as := by
  obtain ⟨vs, ⟨n, ho⟩, r⟩ := r
  obtain ⟨as, q⟩ := reads_its r
  exact ⟨_, by rw [kqdP]; exact reads_list_at ho rfl rfl (by simpa using q)⟩
theorem ok_it (x : It) : kqdOk 2 (toDat x) = true := by
  cases x with
  | inl n => simp [toDat, kqdOk]
  | inr ns =>
    simp only [toDat, kqdOk, List.all_map, List.all_eq_true]
    intro x _
    simp [kqdOk]
theorem ok_lst (xs : List It) : kqdOk 3 (.list (xs.map toDat)) = true := by
  simp only [kqdOk, List.all_map, List.all_eq_true]
  intro x _
  exact ok_it x
theorem ok_more : ∀ {n m : Nat} {d : Dat}, n ≤ m → kqdOk n d = true → kqdOk m d = true
  | n, m, d, hm, h => by
    induction n generalizing m d with
    | zero => cases d <;> cases m <;> simp_all [kqdOk]
    | succ n ih =>
      obtain ⟨m, rfl⟩ : ∃ k, m = k + 1 := ⟨m - 1, by omega⟩
      cases d with
      | tuple ds =>
        simp only [kqdOk, List.all_eq_true] at h ⊢
        exact fun x hx => ih _ _ (by omega) (h x hx)
      | list ds =>
        simp only [kqdOk, List.all_eq_true] at h ⊢
        exact fun x hx => ih _ _ (by omega) (h x hx)
      | _ => simp_all [kqdOk]

section
variable {prog : Program} {w : World} {B : Heap} {A : Around} {env : Env} {ρ : Rho} {O : Store}

theorem shaped_of {d : Dat} (h : kqdOk 8 d = true) : SeqAt.shaped (kqdP d) = true := by
  have l := kqd_lay 8 d h
  unfold SeqAt.shaped; rw [l.1, Bool.true_and]; exact decide_eq_true (Nat.le_trans l.2 (by decide))
open Classical in
theorem eq_dats {s : Shared} {E : Value → Shared → Prop} {v₁ v₂ : Value} {d e : Dat} {as bs : List Addr} {Q : Value → Shared → Prop} (r₁ : Reads s.heap v₁ (kqdP d) as) (r₂ : Reads s.heap v₂ (kqdP e) bs) (o₁ : kqdOk 8 d = true) (o₂ : kqdOk 8 e = true)
    (hu : A.units + 64 < cLine) (h : Q (.bool (decide (d = e))) s) : wpAny (model prog w) A (compareOp .Eq v₁ v₂) Q E s := by
  refine eq_dataH r₁ r₂ (shaped_of o₁) (shaped_of o₂) hu ?_
  have q := kqd_eqv 8 d e 8 o₁ o₂
  have : PyData.eqv (kqdP d) (kqdP e) = decide (d = e) := by
    by_cases hq : d = e
    · rw [decide_eq_true hq]; exact q.mpr hq
    · rw [decide_eq_false hq]; exact Bool.eq_false_iff.mpr fun x => hq (q.mp x)
  rw [this]; exact h
open Classical in
theorem ne_dats {s : Shared} {E : Value → Shared → Prop} {v₁ v₂ : Value} {d e : Dat} {as bs : List Addr} {Q : Value → Shared → Prop} (r₁ : Reads s.heap v₁ (kqdP d) as) (r₂ : Reads s.heap v₂ (kqdP e) bs) (o₁ : kqdOk 8 d = true) (o₂ : kqdOk 8 e = true)
    (hu : A.units + 64 < cLine) (h : Q (.bool (!decide (d = e))) s) : wpAny (model prog w) A (compareOp .NotEq v₁ v₂) Q E s := by
  refine ne_dataH r₁ r₂ (shaped_of o₁) (shaped_of o₂) hu ?_
  have q := kqd_eqv 8 d e 8 o₁ o₂
  have : PyData.eqv (kqdP d) (kqdP e) = decide (d = e) := by
    by_cases hq : d = e
    · rw [decide_eq_true hq]; exact q.mpr hq
    · rw [decide_eq_false hq]; exact Bool.eq_false_iff.mpr fun x => hq (q.mp x)
  rw [this]; exact h

/-- a value that is a list, with its items -/
inductive ListIs (O : Store) : V → List It → Prop
  | lst {xs : List It} : ListIs O (.lst xs) xs
  | fresh {xs : List It} : ListIs O (.fresh xs) xs
  | own {k : Nat} {xs : List It} : O[k]? = some xs → ListIs O (.own k) xs
theorem ListIs.at {al : List Addr} {h : Heap} {h0 : Heap} {v : Value} {x : V} {xs : List It} (own : All2 (LstAt h) al O) (i : ListIs O x xs) (r : VR al h h0 v x) : ∃ a, v = .ref a ∧ LstAt h a xs := by
  cases i with
  | lst => obtain ⟨a, e, _, q⟩ := r; exact ⟨a, e, q⟩
  | fresh => obtain ⟨a, e, _, _, q⟩ := r; exact ⟨a, e, q⟩
  | own hk =>
    obtain ⟨a, ha, e⟩ := r
    obtain ⟨ys, hy, q⟩ := own.getL ha
    rw [hk] at hy; cases hy
    exact ⟨a, e, q⟩
theorem Op_eq_lst {a b : V} {xs ys : List It} {C : V → Prop} (hu : A.units + 64 < cLine) (ha : ListIs O a xs) (hb : ListIs O b ys) (h : C (.bool (decide (xs = ys)))) : Op2 prog w B A O (compareOp .Eq) a b C := fun env ρ al s h0 va vb R ra rb Q E q => by
  obtain ⟨a', rfl, la⟩ := ha.at R.own ra
  obtain ⟨b', rfl, lb⟩ := hb.at R.own rb
  obtain ⟨as, r₁⟩ := reads_lst la
  obtain ⟨bs, r₂⟩ := reads_lst lb
  refine eq_dats r₁ r₂ (ok_more (by decide) (ok_lst xs)) (ok_more (by decide) (ok_lst ys)) hu ?_
  refine q _ _ s.heap s.toks h R (.refl ..) ?_
  show Value.bool _ = Value.bool _
  congr 1
  by_cases e : xs = ys
  · subst e; simp
  · have : ¬ (Dat.list (xs.map toDat) = Dat.list (ys.map toDat)) := fun q => e (by injection q with q; exact toDats_inj q)
    simp [e, this]
theorem Op_ne_lst {a b : V} {xs ys : List It} {C : V → Prop} (hu : A.units + 64 < cLine) (ha : ListIs O a xs) (hb : ListIs O b ys) (h : C (.bool (!decide (xs = ys)))) : Op2 prog w B A O (compareOp .NotEq) a b C := fun env ρ al s h0 va vb R ra rb Q E q => by
  obtain ⟨a', rfl, la⟩ := ha.at R.own ra
  obtain ⟨b', rfl, lb⟩ := hb.at R.own rb
  obtain ⟨as, r₁⟩ := reads_lst la
  obtain ⟨bs, r₂⟩ := reads_lst lb
  refine ne_dats r₁ r₂ (ok_more (by decide) (ok_lst xs)) (ok_more (by decide) (ok_lst ys)) hu ?_
  refine q _ _ s.heap s.toks h R (.refl ..) ?_
  show Value.bool _ = Value.bool _
  congr 2
  by_cases e : xs = ys
  · subst e; simp
  · have : ¬ (Dat.list (xs.map toDat) = Dat.list (ys.map toDat)) := fun q => e (by injection q with q; exact toDats_inj q)
    simp [e, this]
/-- None, or a tuple -/
def V.opt : Option (List Int) → V
  | Option.none => V.none
  | some ns => .tup ns
def optDat : Option (List Int) → Dat
  | none => Dat.none
  | some ns => .tuple (ns.map Dat.int)
theorem optDat_inj {a b : Option (List Int)} (h : optDat a = optDat b) : a = b := by
  cases a with
  | none => cases b with
    | none => rfl
    | some b => cases h
  | some a => cases b with
    | none => cases h
    | some b => injection h with h; rw [ints_inj h]
theorem reads_opt {al : List Addr} {h : Heap} {h0 : Heap} {v : Value} : ∀ {o : Option (List Int)}, VR al h h0 v (.opt o) → ∃ as, Reads h v (kqdP (optDat o)) as
  | none, r => by
    have e : v = .none := r
    subst e; exact ⟨_, by rw [optDat, kqdP]; exact .none⟩
  | some ns, r => reads_it (x := .inr ns) r
theorem ok_opt : ∀ o : Option (List Int), kqdOk 2 (optDat o) = true
  | none => by simp [optDat, kqdOk]
  | some ns => ok_it (.inr ns)
theorem Op_ne_opt {a b : Option (List Int)} {C : V → Prop} (hu : A.units + 64 < cLine) (h : C (.bool (!decide (a = b)))) : Op2 prog w B A O (compareOp .NotEq) (.opt a) (.opt b) C := fun env ρ al s h0 va vb R ra rb Q E q => by
  obtain ⟨as, r₁⟩ := reads_opt ra
  obtain ⟨bs, r₂⟩ := reads_opt rb
  refine ne_dats r₁ r₂ (ok_more (by decide) (ok_opt a)) (ok_more (by decide) (ok_opt b)) hu ?_
  refine q _ _ s.heap s.toks h R (.refl ..) ?_
  show Value.bool _ = Value.bool _
  congr 2
  by_cases e : a = b
  · subst e; simp
  · have : ¬ (optDat a = optDat b) := fun q => e (optDat_inj q)
    simp [e, this]
theorem Op_is_none {a : Option (List Int)} {C : V → Prop} (h : C (.bool a.isNone)) : Op2 prog w B A O (compareOp .Is) (.opt a) .none C := fun env ρ al s h0 va vb R ra rb Q E q => by
  have eb : vb = .none := rb
  subst eb
  cases a with
  | none =>
    have ea : va = .none := ra
    subst ea
    exact is_none_none (q _ _ s.heap s.toks h R (.refl ..) rfl)
  | some ns =>
    obtain ⟨a, vs, e, _⟩ := ra
    subst e
    exact is_none_ne (by intro e; cases e) (q _ _ s.heap s.toks h R (.refl ..) rfl)
theorem Op_isnot_none {a : Option (List Int)} {C : V → Prop} (h : C (.bool a.isSome)) : Op2 prog w B A O (compareOp .IsNot) (.opt a) .none C := fun env ρ al s h0 va vb R ra rb Q E q => by
  have eb : vb = .none := rb
  subst eb
  cases a with
  | none =>
    have ea : va = .none := ra
    subst ea
    exact isnot_none_none (q _ _ s.heap s.toks h R (.refl ..) rfl)
  | some ns =>
    obtain ⟨a, vs, e, _⟩ := ra
    subst e
    exact isnot_none_ne (by intro e; cases e) (q _ _ s.heap s.toks h R (.refl ..) rfl)
def memB (x : It) (ys : List It) : Bool := ys.any fun y => decide (x = y)
theorem memB_iff {x : It} {ys : List It} : memB x ys = true ↔ x ∈ ys := by
  unfold memB
  rw [List.any_eq_true]
  constructor
  · rintro ⟨y, hy, e⟩; rw [of_decide_eq_true e]; exact hy
  · intro h; exact ⟨x, h, decide_eq_true rfl⟩
theorem Op_in {x : It} {b : V} {ys : List It} {C : V → Prop} (hu : A.units + 64 < cLine) (hb : ListIs O b ys) (h : C (.bool (memB x ys))) : Op2 prog w B A O (compareOp .In) (.it x) b C := fun env ρ al s h0 va vb R ra rb Q E q => by
  obtain ⟨b', rfl, lb⟩ := hb.at R.own rb
  obtain ⟨as, r₁⟩ := reads_it ra
  obtain ⟨bs, r₂⟩ := reads_lst lb
  rw [kqdP] at r₂
  have oy : ∀ d ∈ ys.map toDat, kqdOk 8 d = true := fun d hd => by
    obtain ⟨y, _, rfl⟩ := List.mem_map.mp hd
    exact ok_more (by decide) (ok_it y)
  have ox : kqdOk 8 (toDat x) = true := ok_more (by decide) (ok_it x)
  have l := kqd_layL oy
  have ld := kqd_lay 8 (toDat x) ox
  have l2 := ld.2
  refine SeqAt.in_list_reads r₂ r₁ l.1 ld.1 ?_ ?_
  · have := Nat.min_le_right (PyData.depthAll (kqdPs (ys.map toDat))) (kqdP (toDat x)).depth
    omega
  · refine q _ _ s.heap s.toks h R (.refl ..) ?_
    show Value.bool _ = Value.bool _
    congr 1
    have k := kqd_any (ys.map toDat) (toDat x) oy ox
    by_cases e : x ∈ ys
    · rw [memB_iff.mpr e]; exact k.mpr (List.mem_map_of_mem e)
    · rw [Bool.eq_false_iff.mpr fun z => e (memB_iff.mp z)]
      exact Bool.eq_false_iff.mpr fun z => e (by obtain ⟨y, hy, q⟩ := List.mem_map.mp (k.mp z); rw [← toDat_inj q]; exact hy)

/-! chains, places -/
theorem WE_chain {l r₁ r₂ : Expr} {op₁ op₂ : CmpOp} {pos : Pos} {K : V → Store → Prop}
    (h : WE prog w B A env l ρ O (fun a O₁ => WE prog w B A env r₁ ρ O₁ (fun b O₂ => Op2 prog w B A O₂ (compareOp op₁) a b (AsB fun c =>
      (c = true → WE prog w B A env r₂ ρ O₂ (fun d O₃ => Op2 prog w B A O₃ (compareOp op₂) b d (fun e => K e O₃))) ∧ (c = false → K (.bool false) O₂)))))
    (hm : lastMarks [op₁, op₂] [r₁, r₂] = false := by with_unfolding_all rfl) : WE prog w B A env (.Compare l [op₁, op₂] [r₁, r₂] pos) ρ O K := fun al s R Q E q => by
  refine Compare_chain (h al s R _ _ fun a va O₁ h₁ tk₁ hk R₁ K₁ ra => chain_link ?_) hm
  refine hk al { s with heap := h₁, toks := tk₁ } R₁ _ _ fun b vb O₂ h₂ tk₂ hk₂ R₂ K₂ rb => ?_
  refine hk₂ env ρ al { s with heap := h₂, toks := tk₂ } s.heap va vb R₂ (ra.keep R₁.lists K₂) (rb.older K₁) _ _ fun c vc h₃ tk₃ hc R₃ K₃ rc => ?_
  obtain ⟨c, rfl, hc⟩ := hc
  have e : vc = .bool c := rc
  subst e
  refine wpAny_truthy_bool ?_
  cases c with
  | false =>
    simp only [Bool.false_eq_true, if_false]
    exact q _ _ O₂ h₃ tk₃ (hc.2 rfl) R₃ (K₁.trans (K₂.trans K₃)) rfl
  | true =>
    simp only [if_true]
    refine chain_last (hc.1 rfl al { s with heap := h₃, toks := tk₃ } R₃ _ _ fun d vd O₄ h₄ tk₄ hk₄ R₄ K₄ rd => ?_)
    refine hk₄ env ρ al { s with heap := h₄, toks := tk₄ } s.heap vb vd R₄ (((rb.keep R₂.lists K₃).keep R₃.lists K₄).older K₁) (rd.older (K₁.trans (K₂.trans K₃))) _ _ fun e ve h₅ tk₅ he R₅ K₅ re => ?_
    exact q e ve O₄ h₅ tk₅ he R₅ (K₁.trans (K₂.trans (K₃.trans (K₄.trans K₅)))) (re.older (K₁.trans (K₂.trans (K₃.trans K₄))))
theorem WT_chain {l r₁ r₂ : Expr} {op₁ op₂ : CmpOp} {pos : Pos} {K : Bool → Store → Prop}
    (h : WE prog w B A env l ρ O (fun a O₁ => WE prog w B A env r₁ ρ O₁ (fun b O₂ => Op2 prog w B A O₂ (compareOp op₁) a b (AsB fun c =>
      (c = true → WE prog w B A env r₂ ρ O₂ (fun d O₃ => Op2 prog w B A O₃ (compareOp op₂) b d (AsB fun e => K e O₃))) ∧ (c = false → K false O₂)))))
    (hm : lastMarks [op₁, op₂] [r₁, r₂] = false := by with_unfolding_all rfl) : WT prog w B A env (.Compare l [op₁, op₂] [r₁, r₂] pos) ρ O K := fun al s R Q E q => by
  refine isTrue_chain (h al s R _ _ fun a va O₁ h₁ tk₁ hk R₁ K₁ ra => test_link ?_) hm
  refine hk al { s with heap := h₁, toks := tk₁ } R₁ _ _ fun b vb O₂ h₂ tk₂ hk₂ R₂ K₂ rb => ?_
  refine hk₂ env ρ al { s with heap := h₂, toks := tk₂ } s.heap va vb R₂ (ra.keep R₁.lists K₂) (rb.older K₁) _ _ fun c vc h₃ tk₃ hc R₃ K₃ rc => ?_
  obtain ⟨c, rfl, hc⟩ := hc
  have e : vc = .bool c := rc
  subst e
  refine wpAny_truthy_bool ?_
  cases c with
  | false =>
    simp only [Bool.false_eq_true, if_false]
    exact q _ O₂ h₃ tk₃ (hc.2 rfl) R₃ (K₁.trans (K₂.trans K₃))
  | true =>
    simp only [if_true]
    refine test_last (hc.1 rfl al { s with heap := h₃, toks := tk₃ } R₃ _ _ fun d vd O₄ h₄ tk₄ hk₄ R₄ K₄ rd => ?_)
    refine hk₄ env ρ al { s with heap := h₄, toks := tk₄ } s.heap vb vd R₄ (((rb.keep R₂.lists K₃).keep R₃.lists K₄).older K₁) (rd.older (K₁.trans (K₂.trans K₃))) _ _ fun e ve h₅ tk₅ he R₅ K₅ re => ?_
    obtain ⟨e', rfl, he⟩ := he
    have e : ve = .bool e' := re
    subst e
    exact wpAny_truthy_bool (q e' O₄ h₅ tk₅ he R₅ (K₁.trans (K₂.trans (K₃.trans (K₄.trans K₅)))))

/-- an item at a place: of a tuple, of a list -/
inductive ItemIs (O : Store) : V → Int → V → Prop
  | tup {ns : List Int} {k : Int} {n : Int} : 0 ≤ k → k < 64 → ns[k.toNat]? = some n → ItemIs O (.tup ns) k (.int n)
  | lst {v : V} {xs : List It} {k : Int} {x : It} : ListIs O v xs → 0 ≤ k → k < 2 ^ 63 → xs[k.toNat]? = some x → ItemIs O v k (.it x)
theorem WE_item {x : Str} {p pos : Pos} {i : Expr} {K : V → Store → Prop}
    (h : WE prog w B A env (.Name x p) ρ O (fun a O₁ => WE prog w B A env i ρ O₁ (fun b O₂ => ∃ k v, b = .int k ∧ ItemIs O₂ a k v ∧ K v O₂)))
    (hs : ∀ o i', subscripted i false o i' = operate [o, i'] (getItem o i') := by intro _ _; rfl) : WE prog w B A env (.Subscript (.Name x p) i pos) ρ O K := fun al s R Q E q => by
  refine Subscript_ (h al s R _ _ fun a va O₁ h₁ tk₁ hk R₁ K₁ ra => ?_)
  refine hk al { s with heap := h₁, toks := tk₁ } R₁ _ _ fun b vb O₂ h₂ tk₂ hk₂ R₂ K₂ rb => ?_
  obtain ⟨k, v, rfl, hi, hk⟩ := hk₂
  obtain ⟨t, rfl⟩ := rb
  have ra := ra.keep R₁.lists K₂
  cases hi with
  | @tup ns k n h0 h64 hn =>
    obtain ⟨a', vs, rfl, ht, r⟩ := ra
    obtain ⟨vn, hvn, hr⟩ := r.get hn
    have hlt : k.toNat < vs.length := (List.getElem?_eq_some_iff.mp hvn).1
    refine item_tupleT (j := k.toNat) (x := vn) ht (by omega) (by omega) ?_ hvn ?_ (hs ..)
    · have e1 : (k < 0) = False := by simp; omega
      have e2 : k < (vs.length : Int) := by omega
      have e3 : ¬ k < 0 := by omega
      simp [seqIndex?, e3, h0, e2]
    · exact q _ _ O₂ h₂ tk₂ hk R₂ (K₁.trans K₂) hr
  | @lst v xs k x hl h0 h63 hx =>
    obtain ⟨a', rfl, vs, hp, r⟩ := hl.at R₂.own ra
    obtain ⟨vn, hvn, hr⟩ := r.get hx
    refine tail_any hp.isList.typeIs slot_list_getitem.lookup (wpAny_getItem_list hp.isList h0 h63 (by simpa using hvn) ?_) (hs ..)
    exact q _ _ O₂ h₂ tk₂ hk R₂ (K₁.trans K₂) hr
end

/-! statements -/
inductive Fl where
  | next
  | ret (v : V)

/-- everything is kept but the own lists and the frame's own objects -/
structure KeepS (env : Env) (al : List Addr) (h h' : Heap) : Prop where
  get : ∀ b o, b ∉ al → b ≠ env.locals → (∀ x, env.cells.lookup x ≠ some b) → h.get? b = some o → h'.get? b = some o
def Ext (h : Heap) (al al' : List Addr) : Prop := ∃ ext, al' = al ++ ext ∧ ∀ a ∈ ext, h.get? a = none

theorem Ext.refl (h : Heap) (al : List Addr) : Ext h al al := ⟨[], by simp, fun _ ha => nomatch ha⟩
theorem Ext.notIn {h : Heap} {al al' : List Addr} (x : Ext h al al') {b : Addr} {o : Obj} (hb : b ∉ al) (e : h.get? b = some o) : b ∉ al' := by
  obtain ⟨ext, rfl, hx⟩ := x
  intro hm
  rcases List.mem_append.mp hm with hm | hm
  · exact hb hm
  · rw [hx b hm] at e; cases e
theorem Ext.sub {h : Heap} {al al' : List Addr} (x : Ext h al al') {b : Addr} (hb : b ∈ al) : b ∈ al' := by
  obtain ⟨ext, rfl, hx⟩ := x
  exact List.mem_append_left _ hb
theorem KeepS.refl (env : Env) (al : List Addr) (h : Heap) : KeepS env al h h := ⟨fun _ _ _ _ _ e => e⟩
theorem Keep.s {env : Env} {al : List Addr} {h h' : Heap} (k : Keep al h h') : KeepS env al h h' := ⟨fun b o hb _ _ e => k.get b o hb e⟩
theorem KeepS.trans {env : Env} {al al' : List Addr} {h₁ h₂ h₃ : Heap} (x : KeepS env al h₁ h₂) (e : Ext h₁ al al') (y : KeepS env al' h₂ h₃) : KeepS env al h₁ h₃ :=
  ⟨fun b o hb hl hc q => y.get b o (e.notIn hb q) hl hc (x.get b o hb hl hc q)⟩
theorem Ext.trans' {env : Env} {B : Heap} {ρ : Rho} {O : Store} {al al' al'' : List Addr} {h₁ h₂ h₃ : Heap} (x : Ext h₁ al al') (k : KeepS env al h₁ h₂) (r : Rel B env ρ O al'' h₃) (y : Ext h₂ al' al'') : Ext h₁ al al'' := by
  obtain ⟨m, hns⟩ := r.me.ns
  have ok := r.lists
  obtain ⟨e1, rfl, h1⟩ := x
  obtain ⟨e2, rfl, h2⟩ := y
  refine ⟨e1 ++ e2, by rw [List.append_assoc], fun a ha => ?_⟩
  rcases List.mem_append.mp ha with ha | ha
  · exact h1 a ha
  · cases q : h₁.get? a with
    | none => rfl
    | some o =>
      have ha'' : a ∈ al ++ e1 ++ e2 := List.mem_append_right _ ha
      by_cases hal : a ∈ al
      · exfalso
        have nd := r.nodup
        rw [List.append_assoc] at nd
        exact (List.nodup_append.mp nd).2.2 a hal a (List.mem_append_right _ ha) rfl
      · have n1 : a ≠ env.locals := fun e => ns_notIn hns ok (e ▸ ha'')
        have n2 : ∀ x, env.cells.lookup x ≠ some a := fun x e => by
          obtain ⟨w, hw⟩ := (r.me.cell x a e).2
          exact cell_notIn hw ok ha''
        have := k.get a o hal n1 n2 q
        rw [h2 a ha] at this; cases this

/-- an object that is no dict, no cell, no own list stays -/
theorem KeepS.obj {B : Heap} {env : Env} {al : List Addr} {h h' : Heap} (k : KeepS env al h h') (me : Own B env h) {b : Addr} {o : Obj} (hb : b ∉ al) (e : h.get? b = some o) (hd : ∀ es n, o.data ≠ .dict es n) (hc : ∀ v, o.data ≠ .cell v) : h'.get? b = some o := by
  refine k.get b o hb (fun q => ?_) (fun x q => ?_) e
  · obtain ⟨m, o', es, ep, ho, hd', _⟩ := me.ns
    rw [← q, e] at ho; cases ho
    exact hd _ _ hd'
  · obtain ⟨w, o', ho, hd'⟩ := (me.cell x b q).2
    rw [e] at ho; cases ho
    exact hc _ hd'
theorem KeepS.tup {B : Heap} {env : Env} {al : List Addr} {h h' : Heap} (k : KeepS env al h h') (me : Own B env h) (l : Lists al h) {a : Addr} {items : Array Value} (t : IsTup h a items) : IsTup h' a items := by
  have hn := IsTup.notIn t l
  obtain ⟨o, ho, hc, n, hd⟩ := t
  exact ⟨o, k.obj me hn ho (by rw [hd]; intro _ _ e; cases e) (by rw [hd]; intro _ e; cases e), hc, n, hd⟩
theorem KeepS.it {B : Heap} {env : Env} {al : List Addr} {h h' : Heap} (k : KeepS env al h h') (me : Own B env h) (l : Lists al h) {v : Value} : ∀ {x : It}, ItR h v x → ItR h' v x
  | .inl _, r => r
  | .inr _, ⟨a, vs, e, t, r⟩ => ⟨a, vs, e, k.tup me l t, r⟩
theorem KeepS.lst {B : Heap} {env : Env} {al : List Addr} {h h' : Heap} (k : KeepS env al h h') (me : Own B env h) (l : Lists al h) {a : Addr} {xs : List It} (ha : a ∉ al) (r : LstAt h a xs) : LstAt h' a xs := by
  obtain ⟨vs, ⟨n, e⟩, rs⟩ := r
  exact ⟨vs, ⟨n, k.obj me ha e (by intro _ _ e; cases e) (by intro _ e; cases e)⟩, rs.mono fun _ _ q => k.it me l q⟩

/-- a store of a name -/
inductive Put : Rho → Str → V → Rho → Prop
  | here {x : Str} {o : Option V} {v : V} {r : Rho} : Put ((x, o) :: r) x v ((x, some v) :: r)
  | next {x y : Str} {o : Option V} {v : V} {r r' : Rho} : Put r x v r' → Put ((y, o) :: r) x v ((y, o) :: r')
theorem Put.keys {r r' : Rho} {x : Str} {v : V} (p : Put r x v r') : r'.map (·.1) = r.map (·.1) := by
  induction p with
  | here => rfl
  | next _ ih => simp [ih]
theorem Put.mem {r r' : Rho} {x : Str} {v : V} (p : Put r x v r') : ∃ o, (x, o) ∈ r := by
  induction p with
  | here => exact ⟨_, .head _⟩
  | next _ ih => obtain ⟨o, h⟩ := ih; exact ⟨o, .tail _ h⟩
theorem Put.of {r r' : Rho} {x : Str} {v : V} (p : Put r x v r') (nd : (r.map (·.1)).Nodup) {y : Str} {o : Option V} (h : (y, o) ∈ r') : (y = x ∧ o = some v) ∨ (y ≠ x ∧ (y, o) ∈ r) := by
  induction p with
  | here =>
    rw [List.map_cons, List.nodup_cons] at nd
    rcases List.mem_cons.mp h with e | h
    · cases e; exact .inl ⟨rfl, rfl⟩
    · exact .inr ⟨fun e => nd.1 (List.mem_map.mpr ⟨_, h, e⟩), .tail _ h⟩
  | @next x z oz v r r' q ih =>
    rw [List.map_cons, List.nodup_cons] at nd
    rcases List.mem_cons.mp h with e | h
    · cases e
      refine .inr ⟨fun e => ?_, .head _⟩
      subst e
      obtain ⟨o', hm⟩ := q.mem
      exact nd.1 (List.mem_map.mpr ⟨_, hm, rfl⟩)
    · rcases ih nd.2 h with e | ⟨e, hm⟩
      · exact .inl e
      · exact .inr ⟨e, .tail _ hm⟩

theorem sameBut_obj {h h' : Heap} {L b : Addr} {o : Obj} (hs : Heap.SameBut L h h') (e : h.get? b = some o) (hne : b ≠ L) : h'.get? b = some o := (hs.2 b hne).trans e

/-- one of the frame's objects is turned; lists and tuples stay -/
theorem own_stay {B : Heap} {env : Env} {al : List Addr} {h h' : Heap} {O : Store} {c : Addr} (hs : Heap.SameBut c h h') (hc : ∀ b o, h.get? b = some o → (∃ xs n, o.data = .seq xs n) → b ≠ c) :
    (∀ {a : Addr} {items : Array Value}, IsTup h a items → IsTup h' a items) ∧ (∀ {a : Addr} {xs : List It}, LstAt h a xs → LstAt h' a xs) := by
  have tup : ∀ {a : Addr} {items : Array Value}, IsTup h a items → IsTup h' a items := fun {a items} ⟨o, ho, hcl, n, hd⟩ => ⟨o, sameBut_obj hs ho (hc _ _ ho ⟨_, _, hd⟩), hcl, n, hd⟩
  refine ⟨tup, fun {a xs} ⟨vs, ⟨n, ho⟩, rs⟩ => ⟨vs, ⟨n, sameBut_obj hs ho (hc _ _ ho ⟨_, _, rfl⟩)⟩, rs.mono fun v x q => ?_⟩⟩
  cases x with
  | inl k => exact q
  | inr ns => obtain ⟨a, vs, e, t, r⟩ := q; exact ⟨a, vs, e, tup t, r⟩
theorem VH.stay {al : List Addr} {h h' : Heap} (st : (∀ {a : Addr} {items : Array Value}, IsTup h a items → IsTup h' a items) ∧ (∀ {a : Addr} {xs : List It}, LstAt h a xs → LstAt h' a xs)) {v : Value} : ∀ {x : V}, VH al h v x → VH al h' v x
  | .none, r => r
  | .bool _, r => r
  | .it (.inl _), r => r
  | .it (.inr _), ⟨a, vs, e, t, r⟩ => ⟨a, vs, e, st.1 t, r⟩
  | .lst _, ⟨a, e, ha, r⟩ => ⟨a, e, ha, st.2 r⟩
  | .own _, r => r

theorem store_name {M : Model} {A : Around} {B : Heap} {env : Env} {ρ ρ' : Rho} {O : Store} {al : List Addr} {s : Shared} {x : Str} {v : V} {val : Value} {Q : Unit → Shared → Prop} {E : Value → Shared → Prop}
    (R : Rel B env ρ O al s.heap) (p : Put ρ x v ρ') (hv : VH al s.heap val v) (h : ∀ h' tk, Rel B env ρ' O al h' → KeepS env al s.heap h' → Q () { s with heap := h', toks := tk }) :
    wpAny M A (storeName env x val) Q E s := by
  obtain ⟨o, hm⟩ := p.mem
  obtain ⟨mL, hnL⟩ := R.me.ns
  rcases R.names x o hm with ⟨hk, hl⟩ | ⟨hk, c, w, hc, hi, hl⟩
  · -- a local name: the frame's dict is turned
    have hp : (env.scope.kind == .class || (env.scope.kind == .module && env.locals != env.globals)) = false := by rw [R.me.fn]; rfl
    refine wpAny_storeName_local hk hnL (fun h' hn' hs' => ?_) hp
    have apart : ∀ b o, s.heap.get? b = some o → (∃ xs n, o.data = .seq xs n) → b ≠ env.locals := fun b o e ⟨xs, n, hd⟩ q => by
      obtain ⟨o', es, ep, ho', hd', _⟩ := hnL
      rw [← q, e] at ho'; cases ho'; rw [hd] at hd'; cases hd'
    have st := own_stay (B := B) (env := env) (al := al) (O := O) hs' apart
    refine h h' _ ?_ ⟨fun b o hb hL _ e => sameBut_obj hs' e hL⟩
    refine ⟨fun b o e => sameBut_obj hs' (R.base b o e) (fun q => ?_), R.old, R.own.mono fun _ _ r => st.2 r, R.nodup, ?_, fun y oy hy => ?_, by rw [p.keys]; exact R.keys⟩
    · rw [q, R.me.newL] at e; cases e
    · refine ⟨R.me.fn, R.me.gl, R.me.bi, ⟨_, hn'⟩, R.me.newL, fun y c e => ⟨(R.me.cell y c e).1, ?_⟩, R.me.inj⟩
      obtain ⟨w, hw⟩ := (R.me.cell y c e).2
      have hne := cell_ns hw hnL
      obtain ⟨oc, ho, hd⟩ := hw
      exact ⟨w, oc, sameBut_obj hs' ho hne, hd⟩
    · rcases p.of R.keys hy with ⟨rfl, rfl⟩ | ⟨hne, hy⟩
      · exact .inl ⟨hk, fun v' e => by cases e; exact ⟨_, val, hn', by simp, hv.stay st⟩⟩
      · rcases R.names y oy hy with ⟨hky, hly⟩ | ⟨hky, c, w, hc, hi, hly⟩
        · refine .inl ⟨hky, fun v' e => ?_⟩
          obtain ⟨m, vy, hny, hmy, hr⟩ := hly v' e
          refine ⟨_, vy, hn', ?_, hr.stay st⟩
          have : mL = m := by
            obtain ⟨o1, e1, p1, a1, b1, _, d1⟩ := hnL
            obtain ⟨o2, e2, p2, a2, b2, _, d2⟩ := hny
            rw [a1] at a2; cases a2; rw [b1] at b2; cases b2
            funext z; rw [← d1, ← d2]
          simp [hne, this, hmy]
        · have hnec := cell_ns hi hnL
          refine .inr ⟨hky, c, w, hc, ?_, fun v' e => ?_⟩
          · obtain ⟨oc, ho, hd⟩ := hi
            exact ⟨oc, sameBut_obj hs' ho hnec, hd⟩
          · obtain ⟨vy, e1, hr⟩ := hly v' e
            exact ⟨vy, e1, hr.stay st⟩
  · -- a name in a cell
    refine wpAny_storeName_cell R.me.fn hk hc hi fun h' hi' hs' => ?_
    have apart : ∀ b o, s.heap.get? b = some o → (∃ xs n, o.data = .seq xs n) → b ≠ c := fun b o e ⟨xs, n, hd⟩ q => by
      obtain ⟨o', ho', hd'⟩ := hi
      rw [← q, e] at ho'; cases ho'; rw [hd] at hd'; cases hd'
    have st := own_stay (B := B) (env := env) (al := al) (O := O) hs' apart
    have hneL : env.locals ≠ c := Ne.symm (cell_ns hi hnL)
    refine h h' _ ?_ ⟨fun b o hb _ hcc e => sameBut_obj hs' e fun q => hcc x (q ▸ hc)⟩
    refine ⟨fun b o e => sameBut_obj hs' (R.base b o e) (fun q => ?_), R.old, R.own.mono fun _ _ r => st.2 r, R.nodup, ?_, fun y oy hy => ?_, by rw [p.keys]; exact R.keys⟩
    · rw [q, (R.me.cell x c hc).1] at e; cases e
    · refine ⟨R.me.fn, R.me.gl, R.me.bi, ⟨_, hnL.sameBut hs' hneL⟩, R.me.newL, fun y c' e => ⟨(R.me.cell y c' e).1, ?_⟩, R.me.inj⟩
      by_cases hcc : c' = c
      · subst hcc; exact ⟨_, hi'⟩
      · obtain ⟨w', oc, ho, hd⟩ := (R.me.cell y c' e).2
        exact ⟨w', oc, sameBut_obj hs' ho hcc, hd⟩
    · rcases p.of R.keys hy with ⟨rfl, rfl⟩ | ⟨hne, hy⟩
      · exact .inr ⟨hk, c, _, hc, hi', fun v' e => by cases e; exact ⟨val, rfl, hv.stay st⟩⟩
      · rcases R.names y oy hy with ⟨hky, hly⟩ | ⟨hky, c', w', hc', hi2, hly⟩
        · refine .inl ⟨hky, fun v' e => ?_⟩
          obtain ⟨m, vy, hny, hmy, hr⟩ := hly v' e
          exact ⟨m, vy, hny.sameBut hs' hneL, hmy, hr.stay st⟩
        · have hcc : c' ≠ c := fun e => hne (R.me.inj y x c (e ▸ hc') hc)
          refine .inr ⟨hky, c', w', hc', ?_, fun v' e => ?_⟩
          · obtain ⟨oc, ho, hd⟩ := hi2
            exact ⟨oc, sameBut_obj hs' ho hcc, hd⟩
          · obtain ⟨vy, e1, hr⟩ := hly v' e
            exact ⟨vy, e1, hr.stay st⟩

def FlR (al : List Addr) (h h0 : Heap) (f : Flow) : Fl → Prop
  | .next => f = .next
  | .ret v => ∃ val, f = .ret val ∧ VR al h h0 val v
section
variable (prog : Program) (w : World) (B : Heap)
def WSX (A : Around) (env : Env) (t : Sem Flow) (ρ : Rho) (O : Store) (K : Fl → Rho → Store → Prop) : Prop :=
  ∀ (al : List Addr) (s : Shared), Rel B env ρ O al s.heap → ∀ (Q : Flow → Shared → Prop) (E : Value → Shared → Prop),
    (∀ fl f ρ' O' al' h' tk, K fl ρ' O' → FlR al' h' s.heap f fl → Rel B env ρ' O' al' h' → KeepS env al s.heap h' → Ext s.heap al al' → Q f { s with heap := h', toks := tk }) →
    wpAny (model prog w) A t Q E s
abbrev WS (A : Around) (env : Env) (sts : List Stmt) (ρ : Rho) (O : Store) (K : Fl → Rho → Store → Prop) : Prop := WSX prog w B A env (execs sts env) ρ O K
abbrev W1 (A : Around) (env : Env) (st : Stmt) (ρ : Rho) (O : Store) (K : Fl → Rho → Store → Prop) : Prop := WSX prog w B A env (exec st env) ρ O K
end

inductive PutAll : Rho → List Str → List V → Rho → Prop
  | nil {ρ : Rho} : PutAll ρ [] [] ρ
  | cons {ρ ρ₁ ρ₂ : Rho} {x : Str} {v : V} {xs : List Str} {vs : List V} : Put ρ x v ρ₁ → PutAll ρ₁ xs vs ρ₂ → PutAll ρ (x :: xs) (v :: vs) ρ₂
inductive NamesOf : List Expr → List Str → Prop
  | nil : NamesOf [] []
  | cons {x : Str} {p : Pos} {es : List Expr} {xs : List Str} : NamesOf es xs → NamesOf (.Name x p :: es) (x :: xs)
/-- what a name holds of a value -/
def V.hold : V → V
  | .fresh xs => .lst xs
  | v => v
theorem VR.hold {al : List Addr} {h h0 : Heap} {v : Value} : ∀ {x : V}, VR al h h0 v x → VH al h v x.hold
  | .none, r => r
  | .bool _, r => r
  | .it _, r => r
  | .lst _, r => r
  | .own _, r => r
  | .fresh _, ⟨a, e, ha, _, r⟩ => ⟨a, e, ha, r⟩

section
variable {prog : Program} {w : World} {B : Heap} {A : Around} {env : Env} {ρ : Rho} {O : Store}

theorem FlR.older {al : List Addr} {h h0 h1 : Heap} {f : Flow} {fl : Fl} (r : FlR al h h0 f fl) (k : ∀ val v, VR al h h0 val v → VR al h h1 val v) : FlR al h h1 f fl := by
  cases fl with
  | next => exact r
  | ret v => obtain ⟨val, e, r⟩ := r; exact ⟨val, e, k _ _ r⟩
/-- fresh at a later heap is fresh at an earlier one -/
theorem VR.olderS {ρ' : Rho} {O' : Store} {al al' : List Addr} {h h0 h1 : Heap} (k : KeepS env al h1 h0) (R : Rel B env ρ' O' al' h) (x : Ext h1 al al') {v : Value} : ∀ {y : V}, VR al' h h0 v y → VR al' h h1 v y
  | .none, r => r
  | .bool _, r => r
  | .it _, r => r
  | .lst _, r => r
  | .own _, r => r
  | .fresh _, ⟨a, e, ha, hn, r⟩ => ⟨a, e, ha, (by
      cases q : h1.get? a with
      | none => rfl
      | some o =>
        exfalso
        obtain ⟨m, hns⟩ := R.me.ns
        obtain ⟨vs, ⟨na, ea⟩, _⟩ := r
        have := k.get a o (fun hm => ha (x.sub hm)) (fun e => by
          subst e
          obtain ⟨o', es, ep, ho', hd', _⟩ := hns
          rw [ea] at ho'; cases ho'; cases hd') (fun z e => by
          obtain ⟨w', o', ho', hd'⟩ := (R.me.cell z a e).2
          rw [ea] at ho'; cases ho'; cases hd') q
        rw [this] at hn; cases hn), r⟩

theorem WSX.mono {t : Sem Flow} {K K' : Fl → Rho → Store → Prop} (h : WSX prog w B A env t ρ O K) (hk : ∀ fl ρ O, K fl ρ O → K' fl ρ O) : WSX prog w B A env t ρ O K' :=
  fun al s R Q E q => h al s R Q E fun fl f ρ' O' al' h' tk k => q fl f ρ' O' al' h' tk (hk _ _ _ k)
theorem WS_nil {K : Fl → Rho → Store → Prop} (h : K .next ρ O) : WS prog w B A env [] ρ O K := fun al s R Q E q =>
  wpAny_execs_nil (q .next .next ρ O al s.heap s.toks h rfl R (.refl ..) (.refl ..))
/-- then -/
def Then (C : Rho → Store → Prop) (K : Fl → Rho → Store → Prop) (fl : Fl) (ρ : Rho) (O : Store) : Prop := match fl with
  | .next => C ρ O
  | .ret v => K (.ret v) ρ O
theorem WS_cons {st : Stmt} {rest : List Stmt} {K : Fl → Rho → Store → Prop} (h : W1 prog w B A env st ρ O (Then (fun ρ' O' => WS prog w B A env rest ρ' O' K) K)) : WS prog w B A env (st :: rest) ρ O K := fun al s R Q E q => by
  refine wpAny_execs_cons (h al s R _ _ fun fl f ρ' O' al' h' tk hk hf R' K' X => ?_)
  cases fl with
  | next =>
    have e : f = .next := hf
    subst e
    refine hk al' { s with heap := h', toks := tk } R' _ _ fun fl₂ f₂ ρ₂ O₂ al₂ h₂ tk₂ hk₂ hf₂ R₂ K₂ X₂ => ?_
    have X₃ := X.trans' K' R₂ X₂
    refine q fl₂ f₂ ρ₂ O₂ al₂ h₂ tk₂ hk₂ ?_ R₂ (K'.trans X K₂) X₃
    exact FlR.older hf₂ fun val v r => VR.olderS K' R₂ X₃ r
  | ret v =>
    obtain ⟨val, rfl, r⟩ := hf
    exact q (.ret v) _ ρ' O' al' h' tk hk ⟨val, rfl, r⟩ R' K' X

theorem W1_Return {e : Expr} {pos : Pos} {K : Fl → Rho → Store → Prop} (h : WE prog w B A env e ρ O (fun v O' => K (.ret v) ρ O')) : W1 prog w B A env (.Return (some e) pos) ρ O K := fun al s R Q E q =>
  wpAny_Return_some (h al s R _ _ fun v val O' h' tk hk R' K' r => q (.ret v) _ ρ O' al h' tk hk ⟨val, rfl, r⟩ R' K'.s (.refl ..))
theorem W1_If {t : Expr} {b e : List Stmt} {pos : Pos} {K : Fl → Rho → Store → Prop} (h : WT prog w B A env t ρ O (fun c O' => (c = true → WS prog w B A env b ρ O' K) ∧ (c = false → WS prog w B A env e ρ O' K))) :
    W1 prog w B A env (.If t b e pos) ρ O K := fun al s R Q E q => by
  refine wpAny_If (h al s R _ _ fun c O' h' tk hk R' K' => ?_)
  have go : ∀ {sts : List Stmt}, WS prog w B A env sts ρ O' K → wpAny (model prog w) A (execs sts env) Q E { s with heap := h', toks := tk } := fun hw =>
    hw al { s with heap := h', toks := tk } R' _ _ fun fl₂ f₂ ρ₂ O₂ al₂ h₂ tk₂ hk₂ hf₂ R₂ K₂ X₂ => by
      have X₃ := (Ext.refl s.heap al).trans' K'.s R₂ X₂
      exact q fl₂ f₂ ρ₂ O₂ al₂ h₂ tk₂ hk₂ (FlR.older hf₂ fun val v r => VR.olderS K'.s R₂ X₃ r) R₂ (K'.s.trans (.refl ..) K₂) X₃
  cases c with
  | true => simp only [if_true]; exact go (hk.1 rfl)
  | false => simp only [Bool.false_eq_true, if_false]; exact go (hk.2 rfl)

theorem W1_Assign {x : Str} {p pos : Pos} {e : Expr} {K : Fl → Rho → Store → Prop} (h : WE prog w B A env e ρ O (fun v O' => ∃ ρ', Put ρ x v.hold ρ' ∧ K .next ρ' O'))
    (hs : swapsWith e (some (.Name x p)) pos.line env = pure false := by rfl) : W1 prog w B A env (.Assign [.Name x p] e pos) ρ O K := fun al s R Q E q => by
  refine wpAny_Assign_Name (h al s R _ _ fun v val O' h' tk hk R' K' r => ?_) hs
  obtain ⟨ρ', hp, hk⟩ := hk
  refine store_name (s := { s with heap := h', toks := tk }) R' hp r.hold fun h₂ tk₂ R₂ K₂ => ?_
  exact q .next _ ρ' O' al h₂ tk₂ hk rfl R₂ (K'.s.trans (.refl ..) K₂) (.refl ..)

/-- a fresh list becomes the frame's own -/
theorem Rel.adopt {al : List Addr} {h h0 : Heap} {xs : List It} {a : Addr} (R : Rel B env ρ O al h) (ha : a ∉ al) (hn : h0.get? a = none) (hb : ∀ b o, B.get? b = some o → h0.get? b = some o) (r : LstAt h a xs)
    (hu : ∀ x o, (x, o) ∈ ρ → Slot env (al ++ [a]) h x o) : Rel B env ρ (O ++ [xs]) (al ++ [a]) h where
  base := R.base
  old b hm := by
    rcases List.mem_append.mp hm with hm | hm
    · exact R.old b hm
    · rw [List.mem_singleton.mp hm]
      cases q : B.get? a with
      | none => rfl
      | some o => rw [hb a o q] at hn; cases hn
  own := R.own.append (.cons r .nil)
  nodup := List.nodup_append.mpr ⟨R.nodup, by simp, fun b hb' c hc e => ha (by rw [← List.mem_singleton.mp hc, ← e]; exact hb')⟩
  me := R.me
  names := hu
  keys := R.keys
/-- what stood at h0 does not name what came after -/
theorem VH.adopt {al : List Addr} {h h0 : Heap} {a : Addr} (hn : h0.get? a = none) {v : Value} : ∀ {x : V}, VH al h0 v x → VH al h v x → VH (al ++ [a]) h v x
  | .none, _, r => r
  | .bool _, _, r => r
  | .it _, _, r => r
  | .lst _, ⟨b, e, _, ⟨vs, ⟨n, ho⟩, _⟩⟩, ⟨b', e', hb, r⟩ => ⟨b', e', (fun (hm : b' ∈ al ++ [a]) => by
      rcases List.mem_append.mp hm with hm | hm
      · exact hb hm
      · rw [List.mem_singleton.mp hm] at e'
        rw [e] at e'; cases e'
        rw [ho] at hn; cases hn), r⟩
  | .own k, _, ⟨b, hb, e⟩ => ⟨b, by
      have hk : k < al.length := (List.getElem?_eq_some_iff.mp hb).1
      rw [List.getElem?_append_left hk]; exact hb, e⟩
theorem Slot.adopt {al : List Addr} {h h0 : Heap} {a : Addr} {x : Str} {o : Option V} (l : Lists al h0) (k : Keep al h0 h) (hn : h0.get? a = none) (sl : Slot env al h0 x o) : Slot env (al ++ [a]) h x o := by
  rcases sl with ⟨hk, hl⟩ | ⟨hk, c, w, hc, hi, hl⟩
  · refine .inl ⟨hk, fun v e => ?_⟩
    obtain ⟨m, val, hn', hm, r⟩ := hl v e
    exact ⟨m, val, Ns.keep l k hn', hm, r.adopt hn (r.keep l k)⟩
  · refine .inr ⟨hk, c, w, hc, IsCell.keep l k hi, fun v e => ?_⟩
    obtain ⟨val, hm, r⟩ := hl v e
    exact ⟨val, hm, r.adopt hn (r.keep l k)⟩

theorem W1_Own {x : Str} {p pos : Pos} {e : Expr} {K : Fl → Rho → Store → Prop} (h : WE prog w B A env e ρ O (fun v O' => ∃ xs ρ', v = .fresh xs ∧ Put ρ x (.own O'.length) ρ' ∧ K .next ρ' (O' ++ [xs])))
    (hs : swapsWith e (some (.Name x p)) pos.line env = pure false := by rfl) : W1 prog w B A env (.Assign [.Name x p] e pos) ρ O K := fun al s R Q E q => by
  refine wpAny_Assign_Name (h al s R _ _ fun v val O' h' tk hk R' K' r => ?_) hs
  obtain ⟨xs, ρ', rfl, hp, hk⟩ := hk
  obtain ⟨a, rfl, ha, hn, r⟩ := r
  have R₂ : Rel B env ρ (O' ++ [xs]) (al ++ [a]) h' := R'.adopt ha hn R.base r fun x o hx => (R.names x o hx).adopt R.lists K' hn
  refine store_name (s := { s with heap := h', toks := tk }) R₂ hp (show VH (al ++ [a]) h' (.ref a) (.own O'.length) from ⟨a, by rw [← R'.own.length]; simp, rfl⟩) fun h₂ tk₂ R₃ K₂ => ?_
  refine q .next _ ρ' _ (al ++ [a]) h₂ tk₂ hk rfl R₃ ?_ ⟨[a], rfl, fun b hb => by rw [List.mem_singleton.mp hb]; exact hn⟩
  exact K'.s.trans ⟨[a], rfl, fun b hb => by
    rw [List.mem_singleton.mp hb]; exact hn⟩ K₂

theorem VH.keepS {al : List Addr} {h h' : Heap} (k : KeepS env al h h') (me : Own B env h) (l : Lists al h) {v : Value} : ∀ {x : V}, VH al h v x → VH al h' v x
  | .none, r => r
  | .bool _, r => r
  | .it _, r => k.it me l r
  | .lst _, ⟨a, e, ha, r⟩ => ⟨a, e, ha, k.lst me l ha r⟩
  | .own _, r => r
theorem starNone : ∀ {es : List Expr} {xs : List Str}, NamesOf es xs → (assignEach es env).findIdx? (·.1) = none ∧ (assignEach es env).length = xs.length
  | _, _, .nil => ⟨rfl, rfl⟩
  | _, _, .cons (x := x) (p := p) (es := es) h => by
    obtain ⟨a, b⟩ := starNone h
    have e : assignEach (.Name x p :: es) env = (false, assign (.Name x p) env) :: assignEach es env := rfl
    rw [e]
    refine ⟨?_, by simp [b]⟩
    rw [List.findIdx?_cons, a]; rfl
theorem assign_names {xs : List Str} {vs : List V} {ρ ρ' : Rho} {al : List Addr} (hp : PutAll ρ xs vs ρ') : ∀ {es : List Expr} {vals : List Value} {s : Shared} {Q : Unit → Shared → Prop} {E : Value → Shared → Prop}, NamesOf es xs →
    Rel B env ρ O al s.heap → All2 (VH al s.heap) vals vs → (∀ h' tk, Rel B env ρ' O al h' → KeepS env al s.heap h' → Q () { s with heap := h', toks := tk }) →
    wpAny (model prog w) A (assignInOrder ((assignEach es env).map (·.2)) vals) Q E s := by
  induction hp with
  | nil =>
    intro es vals s Q E n R r q
    cases n; cases r
    exact wpAny_pure (q s.heap s.toks R (.refl ..))
  | @cons _ _ _ x _ xs _ pu pr ih =>
    intro es vals s Q E n R r q
    cases n with
    | @cons _ p es _ n =>
    cases r with
    | @cons val v vals vs hv hr =>
    have e : (assignEach (.Name x p :: es) env).map (·.2) = assign (.Name x p) env :: (assignEach es env).map (·.2) := rfl
    rw [e]
    show wpAny (model prog w) A (do holding vals (assign (.Name x p) env val); assignInOrder ((assignEach es env).map (·.2)) vals) Q E s
    refine wpAny_bind (wpAny_holding (assign_Name (store_name R pu hv fun h' tk R' K' => ?_)))
    refine ih (s := { s with heap := h', toks := tk }) n R' (hr.mono fun a b r => r.keepS K' R.me R.lists) fun h₂ tk₂ R₂ K₂ => ?_
    exact q h₂ tk₂ R₂ (K'.trans (.refl ..) K₂)
theorem bind_names {xs : List Str} {vs : List V} {ρ ρ' : Rho} {al : List Addr} (hp : PutAll ρ xs vs ρ') : ∀ {vals : List Value} {s : Shared} {Q : Unit → Shared → Prop} {E : Value → Shared → Prop},
    Rel B env ρ O al s.heap → All2 (VH al s.heap) vals vs → (∀ h' tk, Rel B env ρ' O al h' → KeepS env al s.heap h' → Q () { s with heap := h', toks := tk }) →
    wpAny (model prog w) A (assignInOrder (xs.map fun n => bindName env n) vals) Q E s := by
  induction hp with
  | nil =>
    intro vals s Q E R r q
    cases r
    exact wpAny_pure (q s.heap s.toks R (.refl ..))
  | @cons _ _ _ x _ xs _ pu pr ih =>
    intro vals s Q E R r q
    cases r with
    | @cons val v vals vs hv hr =>
    rw [List.map_cons]
    show wpAny (model prog w) A (do holding vals (bindName env x val); assignInOrder (xs.map fun n => bindName env n) vals) Q E s
    refine wpAny_bind (wpAny_holding (wpAny_bindName (store_name R pu hv fun h' tk R' K' => ?_)))
    refine ih (s := { s with heap := h', toks := tk }) R' (hr.mono fun a b r => r.keepS K' R.me R.lists) fun h₂ tk₂ R₂ K₂ => ?_
    exact q h₂ tk₂ R₂ (K'.trans (.refl ..) K₂)
theorem ints_vh {al : List Addr} {h : Heap} {vals : List Value} {ns : List Int} (r : All2 IntR vals ns) : All2 (VH al h) vals (ns.map V.int) := by
  induction r with
  | nil => exact .nil
  | cons a _ ih => exact .cons a ih
theorem All2.rev {α β : Type} {R : α → β → Prop} {as : List α} {bs : List β} (h : All2 R as bs) : All2 R as.reverse bs.reverse := by
  induction h with
  | nil => exact .nil
  | cons h _ ih => rw [List.reverse_cons, List.reverse_cons]; exact ih.append (.cons h .nil)

/-- unpack a tuple of ints into names -/
theorem unpack_names {es : List Expr} {xs : List Str} {ns : List Int} {val : Value} {ρ ρ' : Rho} {al : List Addr} {k : Nat} {pos : Pos} {s : Shared} {Q : Unit → Shared → Prop} {E : Value → Shared → Prop} (hh : A.handled = none)
    (hn : NamesOf es xs) (hl : ns.length = xs.length) (hp : PutAll ρ xs (ns.map V.int) ρ') (R : Rel B env ρ O al s.heap) (r : ItR s.heap val (.inr ns))
    (q : ∀ h' tk, Rel B env ρ' O al h' → KeepS env al s.heap h' → Q () { s with heap := h', toks := tk }) : wpAny (model prog w) A (assign (.Tuple es k pos) env val) Q E s := by
  obtain ⟨a, vs, rfl, t, r⟩ := r
  obtain ⟨i1, i2⟩ := starNone (env := env) hn
  have e0 : assign (.Tuple es k pos) env (.ref a) = (standAt pos >>= fun _ => unpack (.ref a) (assignEach es env)) := rfl
  rw [e0]
  refine wpAny_bind (wpAny_standAt ?_)
  unfold unpack
  rw [i1, i2]
  have hz : xs.length = (List.toArray vs).size := by rw [List.size_toArray, r.length, hl]
  rw [hz]
  refine wpAny_bind (wpAny_holding (unpackItems_tuple hh t fun h' x => ?_))
  have k' : Keep al s.heap h' := ⟨fun b o hb e => x b o (Nat.ne_of_lt (Heap.lt_size e)) e⟩
  have R' : Rel B env ρ O al h' := R.keeps fun b o e => x b o (Nat.ne_of_lt (Heap.lt_size e)) e
  refine assign_names (s := { s with heap := h' }) hp hn R' (ints_vh r) fun h₂ tk₂ R₂ K₂ => ?_
  exact q h₂ tk₂ R₂ (k'.s.trans (.refl ..) K₂)

theorem W1_Unpack {es : List Expr} {xs : List Str} {k : Nat} {tpos pos : Pos} {e : Expr} {K : Fl → Rho → Store → Prop} (hh : A.handled = none) (hn : NamesOf es xs)
    (h : WE prog w B A env e ρ O (fun v O' => ∃ ns ρ', v = .tup ns ∧ ns.length = xs.length ∧ PutAll ρ xs (ns.map V.int) ρ' ∧ K .next ρ' O'))
    (hs : swapsWithSole [.Tuple es k tpos] e pos.line env = pure false := by rfl) (hw : swappedStores [.Tuple es k tpos] e env = pure none := by rfl) :
    W1 prog w B A env (.Assign [.Tuple es k tpos] e pos) ρ O K := fun al s R Q E q => by
  refine Assign_Tuple (h al s R _ _ fun v val O' h' tk hk R' K' r => ?_) hs hw
  obtain ⟨ns, ρ', rfl, hl, hp, hk⟩ := hk
  refine unpack_names (s := { s with heap := h', toks := tk }) hh hn hl hp R' r fun h₂ tk₂ R₂ K₂ => ?_
  exact q .next _ ρ' O' al h₂ tk₂ hk rfl R₂ (K'.s.trans (.refl ..) K₂) (.refl ..)
theorem W1_Swap {es : List Expr} {xs : List Str} {k : Nat} {tpos pos : Pos} {e : Expr} {K : Fl → Rho → Store → Prop} (hh : A.handled = none)
    (h : WE prog w B A env e ρ O (fun v O' => ∃ ns ρ', v = .tup ns ∧ ns.length = xs.length ∧ PutAll ρ xs.reverse (ns.map V.int).reverse ρ' ∧ K .next ρ' O'))
    (hs : swapsWithSole [.Tuple es k tpos] e pos.line env = pure false := by rfl) (hw : swappedStores [.Tuple es k tpos] e env = pure (some xs) := by rfl) :
    W1 prog w B A env (.Assign [.Tuple es k tpos] e pos) ρ O K := fun al s R Q E q => by
  refine Assign_Tuple_swapped (names := xs) (h al s R _ _ fun v val O' h' tk hk R' K' r => ?_) hs hw
  obtain ⟨ns, ρ', rfl, hl, hp, hk⟩ := hk
  obtain ⟨a, vs, rfl, t, r⟩ := r
  have hz : xs.length = (List.toArray vs).size := by rw [List.size_toArray, r.length, hl]
  rw [hz]
  refine unpackItems_tuple hh t fun h₂ x => ?_
  have k' : Keep al h' h₂ := ⟨fun b o hb e => x b o (Nat.ne_of_lt (Heap.lt_size e)) e⟩
  have R₂ : Rel B env ρ O' al h₂ := R'.keeps fun b o e => x b o (Nat.ne_of_lt (Heap.lt_size e)) e
  refine bind_names (s := { s with heap := h₂, toks := tk }) hp R₂ ?_ fun h₃ tk₃ R₃ K₃ => ?_
  · exact (ints_vh r).rev
  · exact q .next _ ρ' O' al h₃ tk₃ hk rfl R₃ ((K'.s.trans (.refl ..) k'.s).trans (.refl ..) K₃) (.refl ..)

/-- found, left = ([], [tile]): two fresh lists become the frame's own -/
theorem W1_TwoOwn {es vs' : List Expr} {x y : Str} {k k' : Nat} {tpos vpos pos : Pos} {K : Fl → Rho → Store → Prop} (hh : A.handled = none)
    (h : WL prog w B A env vpos vs' ρ O (fun vs O' => ∃ xs ys ρ', vs = [.fresh xs, .fresh ys] ∧ PutAll ρ [y, x] [.own (O'.length + 1), .own O'.length] ρ' ∧ K .next ρ' (O' ++ [xs] ++ [ys])))
    (hs : swapsWithSole [.Tuple es k tpos] (.Tuple vs' k' vpos) pos.line env = pure false := by rfl) (hw : swappedStores [.Tuple es k tpos] (.Tuple vs' k' vpos) env = pure (some [x, y]) := by rfl) :
    W1 prog w B A env (.Assign [.Tuple es k tpos] (.Tuple vs' k' vpos) pos) ρ O K := fun al s R Q E q => by
  refine Assign_Tuple_swapped (names := [x, y]) (Tuple_ (h al s R _ _ fun vs vals O' h' tk hk R' K' r => ?_)) hs hw
  obtain ⟨xs, ys, ρ', rfl, hp, hk⟩ := hk
  cases r with
  | @cons _ n1 v1 _ vs1 _ r1 k1 t1 r =>
  cases r with
  | @cons _ n2 v2 _ vs2 _ r2 k2 t2 r =>
  cases r
  obtain ⟨a, rfl, ha, hna, ra⟩ := r1
  obtain ⟨b, rfl, hb, hnb, rb⟩ := r2
  have hab : b ≠ a := fun e => by
    obtain ⟨o, ho⟩ := t1 a rfl
    rw [e, ho] at hnb; cases hnb
  refine wpAny_newObj_type ?_ (by show (List.toArray [Value.ref a, Value.ref b]).size ≤ _; rw [List.size_toArray, sizeLine_eq]; simp)
  have kp : ∀ c o, h'.get? c = some o → (h'.push { cls := .type "tuple", data := .seq (List.toArray [Value.ref a, Value.ref b]) }).get? c = some o := fun c o e => Heap.get?_push_of_some _ e
  refine unpackItems_tuple (t := h'.objs.size) (items := List.toArray [Value.ref a, Value.ref b]) hh (IsTup.new _ _) fun h₂ x => ?_
  have old : ∀ c o, h'.get? c = some o → h₂.get? c = some o := fun c o e => x c o (by
    show c ≠ (h'.push _).objs.size
    rw [Heap.size_push]; exact Nat.ne_of_lt (Nat.lt_succ_of_lt (Heap.lt_size e))) (kp c o e)
  have R₂ : Rel B env ρ O' al h₂ := R'.keeps old
  have K₂ : Keep al s.heap h₂ := K'.trans (.of_keeps old)
  have ra₂ : LstAt h₂ a xs := ra.keep R'.lists (.of_keeps old) ha
  have rb₂ : LstAt h₂ b ys := rb.keep R'.lists (.of_keeps old) hb
  have S1 : ∀ z o, (z, o) ∈ ρ → Slot env (al ++ [a]) h₂ z o := fun z o hz => (R.names z o hz).adopt R.lists K₂ hna
  have R₃ : Rel B env ρ (O' ++ [xs]) (al ++ [a]) h₂ := R₂.adopt ha hna R.base ra₂ S1
  have hb' : b ∉ al ++ [a] := fun hm => by
    rcases List.mem_append.mp hm with hm | hm
    · exact hb hm
    · exact hab (List.mem_singleton.mp hm)
  have hnb' : s.heap.get? b = none := by
    cases q : s.heap.get? b with
    | none => rfl
    | some o =>
      have := k1.get b o hb q
      rw [this] at hnb; cases hnb
  have S2 : ∀ z o, (z, o) ∈ ρ → Slot env (al ++ [a] ++ [b]) h₂ z o := fun z o hz => by
    have s1 : Slot env (al ++ [b]) h₂ z o := (R.names z o hz).adopt R.lists K₂ hnb'
    have s0 := S1 z o hz
    rcases s0 with ⟨hk0, hl0⟩ | ⟨hk0, c0, w0, hc0, hi0, hl0⟩
    · refine .inl ⟨hk0, fun v e => ?_⟩
      obtain ⟨m, val, n, hm, r⟩ := hl0 v e
      refine ⟨m, val, n, hm, ?_⟩
      cases v with
      | lst zs =>
        obtain ⟨c, ec, hc, rc⟩ := r
        refine ⟨c, ec, fun hm' => ?_, rc⟩
        rcases List.mem_append.mp hm' with hm' | hm'
        · exact hc hm'
        · rcases s1 with ⟨_, hl1⟩ | ⟨hk1, _⟩
          · obtain ⟨m', val', n', hm2, c', ec', hc', rc'⟩ := hl1 _ e
            have : m = m' := by
              obtain ⟨o1, e1, p1, a1, b1, _, d1⟩ := n
              obtain ⟨o2, e2, p2, a2, b2, _, d2⟩ := n'
              rw [a1] at a2; cases a2; rw [b1] at b2; cases b2
              funext z; rw [← d1, ← d2]
            subst this
            rw [hm] at hm2; cases hm2
            rw [ec] at ec'; cases ec'
            exact hc' (List.mem_append_right _ hm')
          · rw [hk0] at hk1; cases hk1
      | own j =>
        obtain ⟨c, hc, ec⟩ := r
        exact ⟨c, by rw [List.getElem?_append_left (List.getElem?_eq_some_iff.mp hc).1]; exact hc, ec⟩
      | fresh _ => exact r.elim
      | none => exact r
      | bool _ => exact r
      | it _ => exact r
    · refine .inr ⟨hk0, c0, w0, hc0, hi0, fun v e => ?_⟩
      obtain ⟨val, hm, r⟩ := hl0 v e
      refine ⟨val, hm, ?_⟩
      cases v with
      | lst zs =>
        obtain ⟨c, ec, hc, rc⟩ := r
        refine ⟨c, ec, fun hm' => ?_, rc⟩
        rcases List.mem_append.mp hm' with hm' | hm'
        · exact hc hm'
        · rcases s1 with ⟨hk1, _⟩ | ⟨_, c1, w1, hc1, hi1, hl1⟩
          · rw [hk0] at hk1; cases hk1
          · obtain ⟨val', hm2, c', ec', hc', rc'⟩ := hl1 _ e
            rw [hc0] at hc1; cases hc1
            obtain ⟨o1, e1, d1⟩ := hi0
            obtain ⟨o2, e2, d2⟩ := hi1
            rw [e1] at e2; cases e2; rw [d1] at d2; cases d2
            rw [hm] at hm2; cases hm2
            rw [ec] at ec'; cases ec'
            exact hc' (List.mem_append_right _ hm')
      | own j =>
        obtain ⟨c, hc, ec⟩ := r
        exact ⟨c, by rw [List.getElem?_append_left (List.getElem?_eq_some_iff.mp hc).1]; exact hc, ec⟩
      | fresh _ => exact r.elim
      | none => exact r
      | bool _ => exact r
      | it _ => exact r
  have R₄ : Rel B env ρ (O' ++ [xs] ++ [ys]) (al ++ [a] ++ [b]) h₂ := R₃.adopt hb' hnb' R.base rb₂ S2
  have hlen : al.length = O'.length := R'.own.length
  refine bind_names (s := { s with heap := h₂, toks := tk }) hp R₄ ?_ fun h₃ tk₃ R₅ K₅ => ?_
  · refine .cons ?_ (.cons ?_ .nil)
    · exact ⟨b, by rw [← hlen]; simp, rfl⟩
    · exact ⟨a, by rw [← hlen]; simp, rfl⟩
  · refine q .next _ ρ' _ (al ++ [a] ++ [b]) h₃ tk₃ hk rfl R₅ (K₂.s.trans ⟨[a] ++ [b], by simp, ?_⟩ K₅) ⟨[a] ++ [b], by simp, ?_⟩ <;>
    · intro c hc
      rcases List.mem_append.mp hc with hc | hc
      · rw [List.mem_singleton.mp hc]; exact hna
      · rw [List.mem_singleton.mp hc]; exact hnb'
end

section
variable {prog : Program} {w : World} {B : Heap} {A : Around} {env : Env} {ρ : Rho} {O : Store}

/-! own lists are turned -/
theorem Rel.turn {al : List Addr} {h h' : Heap} {k : Nat} {a : Addr} {ys : List It} (R : Rel B env ρ O al h) (hk : al[k]? = some a) (hs : Heap.SameBut a h h') (hn : LstAt h' a ys) : Rel B env ρ (O.set k ys) al h' ∧ Keep al h h' := by
  have kp : Keep al h h' := .sameBut hs (List.mem_of_getElem? hk)
  refine ⟨R.keep kp (R.own.set hk hn fun j a' b' hj ha' hb' r => ?_), kp⟩
  have hne : a' ≠ a := fun e => by
    subst e
    exact hj ((List.getElem?_inj (List.getElem?_eq_some_iff.mp ha').1 R.nodup).mp (ha'.trans hk.symm))
  obtain ⟨vs, ⟨n, e⟩, rs⟩ := r
  exact ⟨vs, ⟨n, (hs.2 a' hne).trans e⟩, ItsR.keep R.lists kp rs⟩
theorem Rel.list {al : List Addr} {h : Heap} {k : Nat} {xs : List It} (R : Rel B env ρ O al h) (hk : O[k]? = some xs) : ∃ a, al[k]? = some a ∧ LstAt h a xs := R.own.get hk
theorem VH.own_at {al : List Addr} {h : Heap} {k : Nat} {v : Value} (r : VH al h v (.own k)) : ∃ a, al[k]? = some a ∧ v = .ref a := r

theorem WE_own {x : Str} {p : Pos} {k : Nat} {al : List Addr} {s : Shared} {Q : Value → Shared → Prop} {E : Value → Shared → Prop} (R : Rel B env ρ O al s.heap) (hx : (x, some (V.own k)) ∈ ρ) (hd : (x == ("__debug__" : Str)) = false)
    (q : ∀ a h' tk, al[k]? = some a → Rel B env ρ O al h' → Keep al s.heap h' → Q (.ref a) { s with heap := h', toks := tk }) : wpAny (model prog w) A (eval (.Name x p) env) Q E s := by
  refine WE_Name (prog := prog) (w := w) (K := fun v O' => v = .own k ∧ O' = O) hx ⟨rfl, rfl⟩ hd al s R Q E fun v val O' h' tk hk R' K' r => ?_
  obtain ⟨rfl, rfl⟩ := hk
  obtain ⟨a, ha, rfl⟩ := r
  exact q a h' tk ha R' K'

theorem W1_append {x : Str} {p apos cpos pos : Pos} {e : Expr} {k : Nat} {K : Fl → Rho → Store → Prop} (hx : (x, some (V.own k)) ∈ ρ)
    (h : WE prog w B A env e ρ O (fun v O' => ∃ y xs, v = .it y ∧ O'[k]? = some xs ∧ xs.length ≤ 1000000 ∧ K .next ρ (O'.set k (xs ++ [y]))))
    (hbase : attributeBase (.Name x p) "append" env (eval (.Name x p) env) = eval (.Name x p) env := by rfl) (hline : (apos.endLine == cpos.line) = true := by rfl)
    (ht : starEach [e] env = [(false, eval e env)] := by rfl) (hi : interactive env = false := by rfl) (hd : (x == ("__debug__" : Str)) = false := by decide) :
    W1 prog w B A env (.Expr (.Call (.Attribute (.Name x p) "append" apos) [e] [] cpos) pos) ρ O K := fun al s R Q E q => by
  have hbt : backTo cpos (starEach [e] env) = [(false, eval e env)] := by rw [ht]; rfl
  refine wpAny_Expr ?_ hi rfl
  refine wpAny_Call_append hbase (by rw [hbt]; rfl) hline hbt ?_
  refine WE_own R hx hd fun a h₁ tk₁ ha R₁ K₁ => ?_
  obtain ⟨ys, hys, hl⟩ := R₁.own.getL ha
  obtain ⟨vs, ⟨n, hn⟩, _⟩ := hl
  refine ⟨a, List.toArray vs, rfl, ⟨_, n, hn, rfl, rfl, rfl⟩, ?_⟩
  refine h al { s with heap := h₁, toks := tk₁ } R₁ _ _ fun v val O₂ h₂ tk₂ hk₂ R₂ K₂ r₂ => ?_
  obtain ⟨y, xs, rfl, ho, hz, hk₂⟩ := hk₂
  obtain ⟨a', ha', vs', hp, hr⟩ := R₂.list ho
  rw [ha] at ha'; cases ha'
  refine wpAny_list_append_plain hp (fun h₃ hp₃ hs₃ => ?_) (by rw [List.size_toArray, hr.length, sizeLine_eq]; omega)
  have kp : Keep al h₂ h₃ := .sameBut hs₃ (List.mem_of_getElem? ha)
  have ln : LstAt h₃ a (xs ++ [y]) := ⟨vs' ++ [val], by rw [show List.toArray (vs' ++ [val]) = (List.toArray vs').push val by simp]; exact hp₃, (ItsR.keep R₂.lists kp hr).append (.cons (ItR.keep R₂.lists kp r₂) .nil)⟩
  obtain ⟨R₃, _⟩ := R₂.turn ha hs₃ ln
  exact q .next .next ρ _ al h₃ tk₂ hk₂ rfl R₃ (K₁.trans (K₂.trans kp)).s (.refl ..)

theorem WE_pop {x : Str} {p apos cpos : Pos} {k : Nat} {xs : List It} {y : It} {K : V → Store → Prop} (hx : (x, some (V.own k)) ∈ ρ) (ho : O[k]? = some (xs ++ [y])) (hz : xs.length ≤ 1000000) (h : K (.it y) (O.set k xs))
    (hbase : attributeBase (.Name x p) "pop" env (eval (.Name x p) env) = eval (.Name x p) env := by rfl) (hline : (apos.endLine == cpos.line) = true := by rfl) (hd : (x == ("__debug__" : Str)) = false := by decide) :
    WE prog w B A env (.Call (.Attribute (.Name x p) "pop" apos) [] [] cpos) ρ O K := fun al s R Q E q => by
  refine wpAny_Call_method0_late hbase hline ?_
  refine WE_own R hx hd fun a h₁ tk₁ ha R₁ K₁ => ?_
  obtain ⟨a', ha', vs, ⟨n, hn⟩, hr⟩ := R₁.list ho
  rw [ha] at ha'; cases ha'
  refine ⟨"list", "list.pop", PySem.F.plainAttrs_list, PySem.F.slot_list_pop, PySem.F.type_list_pop, ⟨_, hn, rfl⟩, fun b e => by cases e; exact ⟨_, hn, rfl⟩, ?_⟩
  refine callWith_method0 (env := env) ?_
  -- the items: all but the last, the last
  obtain ⟨us, val, rfl, hu, hv⟩ : ∃ us val, vs = us ++ [val] ∧ All2 (ItR h₁) us xs ∧ ItR h₁ val y := by
    have hl := hr.length
    rw [List.length_append] at hl
    have h1 := hr.take xs.length
    have h2 := hr.drop xs.length
    simp only [List.take_left, List.drop_left] at h1 h2
    cases h2' : vs.drop xs.length with
    | nil => rw [h2'] at h2; cases h2
    | cons v r =>
      rw [h2'] at h2
      cases h2 with
      | cons hv hn' =>
        cases hn'
        exact ⟨vs.take xs.length, v, by rw [← h2', List.take_append_drop], h1, hv⟩
  have hsz : (List.toArray (us ++ [val])).size - 1 = us.length := by simp
  have hy : (List.toArray (us ++ [val]))[(List.toArray (us ++ [val])).size - 1]? = some val := by rw [hsz]; simp
  have hlu : us.length = xs.length := hu.length
  have he : (List.toArray (us ++ [val])).eraseIdxIfInBounds us.length = List.toArray us := by
    have := kl_erase us [] val
    simpa using this
  have hup : Obj.mapSeq (fun xs => xs.eraseIdxIfInBounds ((List.toArray (us ++ [val])).size - 1)) { cls := .type "list", data := .seq (List.toArray (us ++ [val])) n } = { cls := .type "list", data := .seq (List.toArray us) (n + 1) } := by
    rw [hsz]
    simp only [Obj.mapSeq, he]
    rw [if_neg (by simp)]
  have hs : Heap.SameBut a h₁ (h₁.update a (Obj.mapSeq fun xs => xs.eraseIdxIfInBounds ((List.toArray (us ++ [val])).size - 1))) := Heap.SameBut.update ..
  have hg := Heap.get?_update_self (Obj.mapSeq fun xs => xs.eraseIdxIfInBounds ((List.toArray (us ++ [val])).size - 1)) hn (by rw [hup]; rfl)
  rw [hup] at hg
  have kp : Keep al h₁ (h₁.update a (Obj.mapSeq fun xs => xs.eraseIdxIfInBounds ((List.toArray (us ++ [val])).size - 1))) := .sameBut hs (List.mem_of_getElem? ha)
  obtain ⟨R₂, _⟩ := R₁.turn ha hs ⟨us, ⟨n + 1, hg⟩, ItsR.keep R₁.lists kp hu⟩
  refine call_meets PySem.F.slot_list_pop ⟨_, hn, rfl⟩ PySem.F.entry_list_pop (PySem.F.args_list_pop_1 _) (PySem.MeetsSeq.list_pop_last a _ n val hy (by rw [List.size_toArray, List.length_append, hlu, sizeLine_eq]; simp; omega)) ⟨hn, ?_⟩
  exact q (.it y) val _ _ tk₁ h R₂ (K₁.trans kp) (ItR.keep R₁.lists kp hv)

theorem W1_setItem {x : Str} {p spos pos : Pos} {i e : Expr} {k : Nat} {K : Fl → Rho → Store → Prop} (hx : (x, some (V.own k)) ∈ ρ)
    (h : WE prog w B A env e ρ O (fun v O₁ => ∃ y, v = .it y ∧ WE prog w B A env i ρ O₁ (fun b O₂ => ∃ j xs, b = .int j ∧ O₂[k]? = some xs ∧ 0 ≤ j ∧ j < xs.length ∧ xs.length ≤ 1000000 ∧ K .next ρ (O₂.set k (xs.set j.toNat y)))))
    (hs : swapsWith e (some (.Subscript (.Name x p) i spos)) pos.line env = pure false := by rfl) (hd : (x == ("__debug__" : Str)) = false := by decide) :
    W1 prog w B A env (.Assign [.Subscript (.Name x p) i spos] e pos) ρ O K := fun al s R Q E q => by
  refine wpAny_Assign_Subscript (h al s R _ _ fun v val O₁ h₁ tk₁ hk₁ R₁ K₁ r₁ => ?_) hs
  obtain ⟨y, rfl, hk₁⟩ := hk₁
  refine WE_own (s := { s with heap := h₁, toks := tk₁ }) R₁ hx hd fun a h₂ tk₂ ha R₂ K₂ => ?_
  refine hk₁ al { s with heap := h₂, toks := tk₂ } R₂ _ _ fun b vb O₃ h₃ tk₃ hk₃ R₃ K₃ r₃ => ?_
  obtain ⟨j, xs, rfl, ho, h0, hlt, hz, hk₃⟩ := hk₃
  obtain ⟨t, rfl⟩ := r₃
  obtain ⟨a', ha', vs, ⟨n, hn⟩, hr⟩ := R₃.list ho
  rw [ha] at ha'; cases ha'
  have hlen := hr.length
  refine ki_setAt (s := { s with heap := h₃, toks := tk₃ }) hn h0 (by omega) (by rw [List.size_toArray]; omega) ?_
  have hup : Obj.mapSeq (·.setIfInBounds j.toNat val) (listOf (List.toArray vs) n) = listOf (List.toArray (vs.set j.toNat val)) n := by
    show Obj.mk _ _ _ _ = Obj.mk _ _ _ _
    simp
  have hs' : Heap.SameBut a h₃ (h₃.update a (Obj.mapSeq (·.setIfInBounds j.toNat val))) := Heap.SameBut.update ..
  have hg := Heap.get?_update_self (Obj.mapSeq (·.setIfInBounds j.toNat val)) hn (by rw [hup]; rfl)
  rw [hup] at hg
  have kp : Keep al h₃ (h₃.update a (Obj.mapSeq (·.setIfInBounds j.toNat val))) := .sameBut hs' (List.mem_of_getElem? ha)
  have hv : ItR h₃ val y := ItR.keep R₂.lists K₃ (ItR.keep R₁.lists K₂ r₁)
  have hall : All2 (ItR h₃) (vs.set j.toNat val) (xs.set j.toNat y) := by
    have : ∀ {vs : List Value} {xs : List It} (m : Nat), All2 (ItR h₃) vs xs → All2 (ItR h₃) (vs.set m val) (xs.set m y) := by
      intro vs xs m r
      induction r generalizing m with
      | nil => simp; exact .nil
      | cons a r ih => cases m with
        | zero => exact .cons hv r
        | succ m => exact .cons a (ih m)
    exact this _ hr
  obtain ⟨R₄, _⟩ := R₃.turn ha hs' ⟨_, ⟨n, hg⟩, ItsR.keep R₃.lists kp hall⟩
  exact q .next .next ρ _ al _ tk₃ hk₃ rfl R₄ (K₁.trans (K₂.trans (K₃.trans kp))).s (.refl ..)
end

/-- all but the objects made of fields (iterators, ranges) is kept -/
def Stay (h h' : Heap) : Prop := ∀ b o, h.get? b = some o → (∀ fs, o.data ≠ .fields fs) → h'.get? b = some o
theorem Stay.trans {h₁ h₂ h₃ : Heap} (x : Stay h₁ h₂) (y : Stay h₂ h₃) : Stay h₁ h₃ := fun b o e n => y b o (x b o e n) n
theorem Stay.tup {h h' : Heap} (st : Stay h h') {a : Addr} {items : Array Value} (t : IsTup h a items) : IsTup h' a items :=
  let ⟨o, ho, hc, n, hd⟩ := t; ⟨o, st a o ho (by rw [hd]; intro _ e; cases e), hc, n, hd⟩
theorem Stay.it {h h' : Heap} (st : Stay h h') {v : Value} : ∀ {x : It}, ItR h v x → ItR h' v x
  | .inl _, r => r
  | .inr _, ⟨a, vs, e, t, r⟩ => ⟨a, vs, e, st.tup t, r⟩
theorem Stay.lst {h h' : Heap} (st : Stay h h') {a : Addr} {xs : List It} (r : LstAt h a xs) : LstAt h' a xs :=
  let ⟨vs, ⟨n, e⟩, rs⟩ := r; ⟨vs, ⟨n, st a _ e (by intro _ e; cases e)⟩, rs.mono fun _ _ q => st.it q⟩
theorem Stay.vh {h h' : Heap} (st : Stay h h') {al : List Addr} {v : Value} : ∀ {x : V}, VH al h v x → VH al h' v x
  | .none, r => r
  | .bool _, r => r
  | .it _, r => st.it r
  | .lst _, ⟨a, e, ha, r⟩ => ⟨a, e, ha, st.lst r⟩
  | .own _, r => r
theorem Stay.ns {h h' : Heap} (st : Stay h h') {L : Addr} {m : Str → Option Value} (n : h.Ns L m) : h'.Ns L m :=
  let ⟨o, es, ep, ho, hd, q⟩ := n; ⟨o, es, ep, st L o ho (by rw [hd]; intro _ e; cases e), hd, q⟩
theorem Stay.cell {h h' : Heap} (st : Stay h h') {c : Addr} {w : Option Value} (n : h.IsCell c w) : h'.IsCell c w :=
  let ⟨o, ho, hd⟩ := n; ⟨o, st c o ho (by rw [hd]; intro _ e; cases e), hd⟩
theorem Rel.stay {B : Heap} {env : Env} {ρ : Rho} {O : Store} {al : List Addr} {h h' : Heap} (R : Rel B env ρ O al h) (st : Stay h h') (hb : ∀ b o, B.get? b = some o → h'.get? b = some o) : Rel B env ρ O al h' where
  base := hb
  old := R.old
  own := R.own.mono fun _ _ r => st.lst r
  nodup := R.nodup
  me := ⟨R.me.fn, R.me.gl, R.me.bi, (let ⟨m, n⟩ := R.me.ns; ⟨m, st.ns n⟩), R.me.newL, fun x c e => ⟨(R.me.cell x c e).1, let ⟨w, n⟩ := (R.me.cell x c e).2; ⟨w, st.cell n⟩⟩, R.me.inj⟩
  names x o hx := match R.names x o hx with
    | .inl ⟨a, q⟩ => .inl ⟨a, fun v hv => let ⟨m, val, n, e, r⟩ := q v hv; ⟨m, val, st.ns n, e, st.vh r⟩⟩
    | .inr ⟨a, c, w, e, n, q⟩ => .inr ⟨a, c, w, e, st.cell n, fun v hv => let ⟨val, e, r⟩ := q v hv; ⟨val, e, st.vh r⟩⟩
  keys := R.keys
/-- one object made of fields is turned -/
theorem stay_of {h h' : Heap} {I : Addr} (hI : ∃ o fs, h.get? I = some o ∧ o.data = .fields fs) (k : ∀ b o, b ≠ I → h.get? b = some o → h'.get? b = some o) : Stay h h' := fun b o e n =>
  k b o (fun q => by
    obtain ⟨o', fs, ho, hd⟩ := hI
    rw [← q, e] at ho; cases ho
    exact n _ hd) e
theorem Keep.stay {B : Heap} {env : Env} {ρ : Rho} {O : Store} {al : List Addr} {h h' : Heap} (k : Keep al h h') : ∀ {b o}, h.get? b = some o → b ∉ al → h'.get? b = some o := fun e n => k.get _ _ n e

def iterPlain (c : String) : Bool := !(["enumerate", "zip", "dict_itemiterator", "dict_reverseitemiterator", "odict_iterator", "itertools.zip_longest", "itertools.pairwise"] : List String).contains c

def ApartS (env : Env) (al : List Addr) (b : Addr) : Prop := b ∉ al ∧ b ≠ env.locals ∧ ∀ x, env.cells.lookup x ≠ some b

/-- an iterator that will hand out these items -/
def IterOk (prog : Program) (w : World) (A : Around) (env : Env) (al : List Addr) (h : Heap) (I : Addr) (xs : List It) : Prop :=
  ∃ (fp : List Addr) (P : Nat → Value → Prop) (St : Nat → Heap → Prop), Walks prog w A I fp [I] xs.length P St ∧ (∀ b ∈ fp, ApartS env al b ∧ ∃ o, h.get? b = some o) ∧ I ∈ fp ∧ St 0 h ∧
    (∀ i v, P i v → ∃ x, xs[i]? = some x ∧ ItR h v x) ∧ (∀ i h, St i h → ∃ o c fs, h.get? I = some o ∧ o.cls = .type c ∧ iterPlain c = true ∧ o.data = .fields fs)

section
variable (prog : Program) (w : World) (B : Heap)
def WI (A : Around) (env : Env) (e : Expr) (ρ : Rho) (O : Store) (K : List It → Store → Prop) : Prop :=
  ∀ (al : List Addr) (s : Shared), Rel B env ρ O al s.heap → ∀ (Q E : Value → Shared → Prop),
    (∀ xs O' h' tk I, K xs O' → Rel B env ρ O' al h' → Keep al s.heap h' → s.heap.get? I = none → IterOk prog w A env al h' I xs → Q (.ref I) { s with heap := h', toks := tk }) →
    wpAny (model prog w) A (eval e env) (fun x s₁ => wpAny (model prog w) A (pyIter x) Q E s₁) E s
def ForK (A : Around) (env : Env) (n : Str) (body : List Stmt) (K : Fl → Rho → Store → Prop) : List It → Rho → Store → Prop
  | [], ρ, O => K .next ρ O
  | x :: xs, ρ, O => ∃ ρ', Put ρ n (.it x) ρ' ∧ WS prog w B A env body ρ' O (Then (ForK A env n body K xs) K)
end

section
variable {prog : Program} {w : World} {B : Heap} {A : Around} {env : Env} {ρ : Rho} {O : Store}

/-- a fresh address is apart from the frame's own -/
theorem Rel.apart {al : List Addr} {h h' : Heap} {b : Addr} (R : Rel B env ρ O al h) (hn : h.get? b = none) : ApartS env al b := by
  refine ⟨fun hm => ?_, fun e => ?_, fun x e => ?_⟩
  · obtain ⟨its, o, ho, _⟩ := R.lists b hm; rw [hn] at ho; cases ho
  · obtain ⟨m, o, es, ep, ho, _⟩ := R.me.ns; rw [← e, hn] at ho; cases ho
  · obtain ⟨w', o, ho, _⟩ := (R.me.cell x b e).2; rw [hn] at ho; cases ho
theorem Rel.apartList {al : List Addr} {h : Heap} {b : Addr} {items : Array Value} (R : Rel B env ρ O al h) (hb : b ∉ al) (l : h.IsList b items) : ApartS env al b := by
  obtain ⟨o, ho, hc, n, hd⟩ := l
  refine ⟨hb, fun e => ?_, fun x e => ?_⟩
  · obtain ⟨m, o', es, ep, ho', hd', _⟩ := R.me.ns
    rw [← e, ho] at ho'; cases ho'; rw [hd] at hd'; cases hd'
  · obtain ⟨w', o', ho', hd'⟩ := (R.me.cell x b e).2
    rw [ho] at ho'; cases ho'; rw [hd] at hd'; cases hd'

theorem Rel.freshNew {al : List Addr} {h h' : Heap} (R : Rel B env ρ O al h') (k : Keep al h h') : h.get? h'.objs.size = none := k.fresh R.lists

/-- iteration over a list that is no own list -/
theorem iter_list {al : List Addr} {s : Shared} {a : Addr} {xs : List It} {Q E : Value → Shared → Prop} (hh : A.handled = none) (R : Rel B env ρ O al s.heap) (ha : a ∉ al) (l : LstAt s.heap a xs)
    (q : ∀ h' I, Rel B env ρ O al h' → Keep al s.heap h' → I = s.heap.objs.size → IterOk prog w A env al h' I xs → Q (.ref I) { s with heap := h' }) : wpAny (model prog w) A (pyIter (.ref a)) Q E s := by
  obtain ⟨vs, hp, hr⟩ := id l
  have hl := hp.isList
  refine wpAny_pyIter_list hl ?_
  have kp : ∀ b o, s.heap.get? b = some o → (s.heap.push { cls := .type "list_iterator", data := .fields #[.ref a, .int 0 0] }).get? b = some o := fun b o e => Heap.get?_push_of_some _ e
  have R' := R.keeps kp
  refine q _ _ R' (.of_keeps kp) rfl ?_
  have hne : a ≠ s.heap.objs.size := Nat.ne_of_lt l.lt
  have W := Walks.list (prog := prog) (w := w) hh s.heap.objs.size a hne (List.toArray vs)
  have hz : (List.toArray vs).size = xs.length := by rw [List.size_toArray]; exact hr.length
  rw [hz] at W
  have hnew : s.heap.get? s.heap.objs.size = none := Heap.get?_none_of_le (Nat.le_refl _)
  obtain ⟨n0, e0⟩ := id hp
  refine ⟨_, _, _, W, ?_, by simp, ⟨⟨_, Heap.get?_push_size _ rfl, rfl, rfl⟩, hl.push _⟩, ?_, ?_⟩
  · intro b hb
    rcases List.mem_cons.mp hb with rfl | hb
    · exact ⟨R.apart (h' := s.heap) hnew, _, Heap.get?_push_size _ rfl⟩
    · rw [List.mem_singleton.mp hb]
      exact ⟨R.apartList ha hl, _, kp _ _ e0⟩
  · intro i v hv
    have hv' : vs[i]? = some v := by simpa using hv
    obtain ⟨x, hx, r⟩ := hr.getL hv'
    exact ⟨x, hx, r.keeps kp⟩
  · rintro i h ⟨⟨o, ho, hc, hd⟩, _⟩
    exact ⟨o, _, _, ho, hc, by decide, hd⟩
theorem WI_list {e : Expr} {K : List It → Store → Prop} (hh : A.handled = none) (h : WE prog w B A env e ρ O (fun v O' => ∃ xs, (v = .lst xs ∨ v = .fresh xs) ∧ K xs O')) : WI prog w B A env e ρ O K := fun al s R Q E q => by
  refine h al s R _ _ fun v val O' h' tk hk R' K' r => ?_
  obtain ⟨xs, hv, hk⟩ := hk
  have : ∃ a, val = .ref a ∧ a ∉ al ∧ LstAt h' a xs := by
    rcases hv with rfl | rfl
    · exact r
    · obtain ⟨a, e, ha, _, l⟩ := r; exact ⟨a, e, ha, l⟩
  obtain ⟨a, rfl, ha, l⟩ := this
  refine iter_list (s := { s with heap := h', toks := tk }) hh R' ha l fun h₂ I R₂ K₂ e ok => ?_
  have hn : s.heap.get? I = none := by rw [e]; exact K'.fresh R'.lists
  exact q xs O' h₂ tk I hk R₂ (K'.trans K₂) hn ok

/-- iteration over a range -/
def rangeL (a c : Int) (n : Nat) : List It := (List.range n).map fun (i : Nat) => .inl (a + (i : Int) * c)
theorem rangeL_length (a c : Int) (n : Nat) : (rangeL a c n).length = n := by simp [rangeL]
theorem iter_range {al : List Addr} {s : Shared} {r : Addr} {a b c : Int} {t u v : Tok} {n : Nat} {Q E : Value → Shared → Prop} (hh : A.handled = none) (R : Rel B env ρ O al s.heap) (hr : IsRange s.heap r a b c t u v) (hsmall : Builtin.Range.small a b c = true)
    (hn : Builtin.Range.rangeSize a b c = (n : Int))
    (q : ∀ h' I, Rel B env ρ O al h' → Keep al s.heap h' → I = s.heap.objs.size → IterOk prog w A env al h' I (rangeL a c n) → Q (.ref I) { s with heap := h' }) : wpAny (model prog w) A (pyIter (.ref r)) Q E s := by
  refine wpAny_pyIter_range hr hsmall ?_
  have kp : ∀ b' o, s.heap.get? b' = some o → (s.heap.push { cls := .type "range_iterator", data := .fields #[rawInt a, rawInt (Builtin.Range.rangeSize a b c), rawInt c] }).get? b' = some o := fun b o e => Heap.get?_push_of_some _ e
  refine q _ _ (R.keeps kp) (.of_keeps kp) rfl ?_
  have W : Walks prog w A s.heap.objs.size [s.heap.objs.size] [s.heap.objs.size] n (fun i v => i < n ∧ ∃ t, v = .int (a + i * c) t)
      (fun i h => IsRangeIter h s.heap.objs.size (a + (i : Nat) * c) ((n : Int) - (i : Nat)) c) := (Walks.range hh _ a c n).bound
  have hnew : s.heap.get? s.heap.objs.size = none := Heap.get?_none_of_le (Nat.le_refl _)
  refine ⟨[s.heap.objs.size], _, _, by rw [rangeL_length]; exact W, ?_, by simp, ?_, ?_, ?_⟩
  · intro b' hb
    rw [List.mem_singleton.mp hb]
    exact ⟨R.apart (h' := s.heap) hnew, _, Heap.get?_push_size _ rfl⟩
  · show IsRangeIter _ _ _ _ _
    rw [hn]; simpa using Heap.get?_push_size _ rfl
  · rintro i v ⟨hi, t, rfl⟩
    refine ⟨.inl (a + (i : Int) * c), ?_, t, rfl⟩
    simp [rangeL, hi]
  · intro i h hi
    exact ⟨_, _, _, hi, rfl, by decide, rfl⟩

theorem W1_For {n : Str} {p pos : Pos} {iter : Expr} {body : List Stmt} {K : Fl → Rho → Store → Prop} (h : WI prog w B A env iter ρ O (fun xs O' => ForK prog w B A env n body K xs ρ O'))
    (hs : ∀ x, foldedSetIterable iter env x = pure x := by intro _; rfl) : W1 prog w B A env (.For (.Name n p) iter body [] pos) ρ O K := fun al s R Q E q => by
  refine wpAny_For (h al s R _ _ fun xs O' h' tk I hk R' K' hI ok => ?_) hs
  obtain ⟨fp, P, St, W, hfp, hIf, h0, hP, hF⟩ := ok
  refine codeAny_forLoop (fun m s' => ∃ i ρ₁ O₁ al₁ h₁ tk₁, s' = { s with heap := h₁, toks := tk₁ } ∧ m = xs.length - i ∧ i ≤ xs.length ∧ Rel B env ρ₁ O₁ al₁ h₁ ∧ KeepS env al s.heap h₁ ∧ Ext s.heap al al₁ ∧ St i h₁ ∧
    (∀ b ∈ fp, ApartS env al₁ b ∧ ∃ o, h₁.get? b = some o) ∧ ForK prog w B A env n body K (xs.drop i) ρ₁ O₁ ∧ (∀ v x, ItR h' v x → ItR h₁ v x)) ?_ xs.length ⟨0, ρ, O', al, h', tk, rfl, rfl, Nat.zero_le _, R', K'.s, .refl .., h0, hfp, hk, fun _ _ r => r⟩
  rintro m s' ⟨i, ρ₁, O₁, al₁, h₁, tk₁, rfl, rfl, hi, R₁, K₁, X₁, st, ap, hk, hit⟩
  have hBI : B.get? I = none := by
    cases e : B.get? I with
    | none => rfl
    | some o => rw [R.base I o e] at hI; cases hI
  by_cases hlt : i < xs.length
  · refine W.item i _ _ _ hlt st fun v h₂ tk₂ hPv st₂ hk₂ => ?_
    obtain ⟨x, hx, hr⟩ := hP i v hPv
    have hdrop : xs.drop i = x :: xs.drop (i + 1) := by
      rw [List.drop_eq_getElem_cons hlt]
      congr 1
      exact Option.some.inj ((List.getElem?_eq_getElem hlt).symm.trans hx)
    rw [hdrop] at hk
    obtain ⟨ρ₂, hput, hbody⟩ := hk
    obtain ⟨oI, cI, fsI, eI, _, _, dI⟩ := hF i h₁ st
    have kI : ∀ b o, b ≠ I → h₁.get? b = some o → h₂.get? b = some o := fun b o hb e => hk₂ b o (by simpa using hb) e
    have stay : Stay h₁ h₂ := stay_of ⟨oI, fsI, eI, dI⟩ kI
    have R₂ : Rel B env ρ₁ O₁ al₁ h₂ := R₁.stay stay fun b o e => kI b o (fun q => by rw [q, hBI] at e; cases e) (R₁.base b o e)
    have K₂ : KeepS env al s.heap h₂ := ⟨fun b o hb hl hc e => kI b o (fun q => by rw [q, hI] at e; cases e) (K₁.get b o hb hl hc e)⟩
    have hr₂ : ItR h₂ v x := stay.it (hit v x hr)
    refine wpAny_assign_Name (store_name (v := .it x) (s := { s with heap := h₂, toks := tk₂ }) R₂ hput hr₂ fun h₃ tk₃ R₃ K₃ => ?_)
    have apI₂ : ∀ b ∈ fp, ∃ o, h₂.get? b = some o := fun b hb => by
      by_cases hbI : b = I
      · subst hbI
        obtain ⟨o, _, _, e, _⟩ := hF _ _ st₂
        exact ⟨o, e⟩
      · obtain ⟨_, o, e⟩ := ap b hb
        exact ⟨o, kI b o hbI e⟩
    refine hbody al₁ { s with heap := h₃, toks := tk₃ } R₃ _ _ fun fl f ρ₄ O₄ al₄ h₄ tk₄ hk₄ hf R₄ K₄ X₄ => ?_
    have K23 : KeepS env al s.heap h₃ := K₂.trans X₁ K₃
    have K4 : KeepS env al s.heap h₄ := K23.trans X₁ K₄
    have X4 : Ext s.heap al al₄ := X₁.trans' K23 R₄ X₄
    cases fl with
    | ret v' =>
      obtain ⟨val, rfl, r⟩ := hf
      refine q (.ret v') _ ρ₄ O₄ al₄ h₄ tk₄ hk₄ ⟨val, rfl, VR.olderS K23 R₄ X4 r⟩ R₄ K4 X4
    | next =>
      have e : f = .next := hf
      subst e
      refine ⟨xs.length - (i + 1), by omega, i + 1, ρ₄, O₄, al₄, h₄, tk₄, rfl, rfl, hlt, R₄, K4, X4, ?_, ?_, hk₄, ?_⟩
      · refine W.frame (i + 1) h₃ h₄ (W.frame (i + 1) h₂ h₃ st₂ fun b hb o e => ?_) fun b hb o e => ?_
        · obtain ⟨⟨a1, a2, a3⟩, _⟩ := ap b hb
          exact K₃.get b o a1 a2 a3 e
        · obtain ⟨⟨a1, a2, a3⟩, _⟩ := ap b hb
          exact K₄.get b o a1 a2 a3 e
      · intro b hb
        obtain ⟨⟨a1, a2, a3⟩, _⟩ := ap b hb
        obtain ⟨o, e⟩ := apI₂ b hb
        have e3 := K₃.get b o a1 a2 a3 e
        exact ⟨⟨X₄.notIn a1 e3, a2, a3⟩, o, K₄.get b o a1 a2 a3 e3⟩
      · intro v' x' r
        have r2 := stay.it (hit v' x' r)
        have r3 := K₃.it R₂.me R₂.lists r2
        exact K₄.it R₃.me R₃.lists r3
  · have hin : i = xs.length := by omega
    subst hin
    refine W.done _ _ _ st fun h₂ tk₂ hk₂ => wpAny_execs_nil ?_
    have hd : xs.drop xs.length = [] := List.drop_eq_nil_of_le (Nat.le_refl _)
    rw [hd] at hk
    obtain ⟨oI, cI, fsI, eI, _, _, dI⟩ := hF _ h₁ st
    have kI : ∀ b o, b ≠ I → h₁.get? b = some o → h₂.get? b = some o := fun b o hb e => hk₂ b o (by simpa using hb) e
    have stay : Stay h₁ h₂ := stay_of ⟨oI, fsI, eI, dI⟩ kI
    have R₂ : Rel B env ρ₁ O₁ al₁ h₂ := R₁.stay stay fun b o e => kI b o (fun q => by rw [q, hBI] at e; cases e) (R₁.base b o e)
    have K₂ : KeepS env al s.heap h₂ := ⟨fun b o hb hl hc e => kI b o (fun q => by rw [q, hI] at e; cases e) (K₁.get b o hb hl hc e)⟩
    exact q .next .next ρ₁ O₁ al₁ h₂ tk₂ hk rfl R₂ K₂ X₁

/-- while: its turns by a number -/
def WhK (prog : Program) (w : World) (B : Heap) (A : Around) (env : Env) (t : Expr) (body : List Stmt) (K : Fl → Rho → Store → Prop) : Nat → Rho → Store → Prop
  | 0, _, _ => False
  | n + 1, ρ, O => WT prog w B A env t ρ O (fun b O₁ => (b = true → WS prog w B A env body ρ O₁ (Then (WhK prog w B A env t body K n) K)) ∧ (b = false → K .next ρ O₁))
theorem W1_While {t : Expr} {pos : Pos} {body : List Stmt} {n : Nat} {K : Fl → Rho → Store → Prop} (h : WhK prog w B A env t body K n ρ O) : W1 prog w B A env (.While t body [] pos) ρ O K := fun al s R Q E q => by
  refine wpAny_While (codeAny_whileLoop (fun m s' => ∃ ρ₁ O₁ al₁ h₁ tk₁, s' = { s with heap := h₁, toks := tk₁ } ∧ Rel B env ρ₁ O₁ al₁ h₁ ∧ KeepS env al s.heap h₁ ∧ Ext s.heap al al₁ ∧ WhK prog w B A env t body K m ρ₁ O₁) ?_ n ⟨ρ, O, al, s.heap, s.toks, rfl, R, .refl .., .refl .., h⟩)
  rintro m s' ⟨ρ₁, O₁, al₁, h₁, tk₁, rfl, R₁, K₁, X₁, hk⟩
  cases m with
  | zero => exact hk.elim
  | succ m =>
    refine hk al₁ { s with heap := h₁, toks := tk₁ } R₁ _ _ fun b O₂ h₂ tk₂ hk₂ R₂ K₂ => ?_
    have K2 : KeepS env al s.heap h₂ := K₁.trans X₁ K₂.s
    cases b with
    | false =>
      simp only [Bool.false_eq_true, if_false]
      exact wpAny_execs_nil (q .next .next ρ₁ O₂ al₁ h₂ tk₂ (hk₂.2 rfl) rfl R₂ K2 X₁)
    | true =>
      simp only [if_true]
      refine hk₂.1 rfl al₁ { s with heap := h₂, toks := tk₂ } R₂ _ _ fun fl f ρ₃ O₃ al₃ h₃ tk₃ hk₃ hf R₃ K₃ X₃ => ?_
      have K3 : KeepS env al s.heap h₃ := K2.trans X₁ K₃
      have X3 : Ext s.heap al al₃ := X₁.trans' K2 R₃ X₃
      cases fl with
      | ret v =>
        obtain ⟨val, rfl, r⟩ := hf
        exact q (.ret v) _ ρ₃ O₃ al₃ h₃ tk₃ hk₃ ⟨val, rfl, VR.olderS K2 R₃ X3 r⟩ R₃ K3 X3
      | next =>
        have e : f = .next := hf
        subst e
        exact ⟨m, Nat.lt_succ_self _, ρ₃, O₃, al₃, h₃, tk₃, rfl, R₃, K3, X3, hk₃⟩
end

/-- the top's world, at the heap where the law's call begins -/
structure Wd (B : Heap) (mg mb : Str → Option Value) : Prop where
  g : B.Ns mainGlobals mg
  b : B.Ns builtinsNs mb
  lim : B.NoLimit
  bi : ∀ x : Str, x ∈ ([Str.ofString "len", Str.ofString "range", Str.ofString "min", Str.ofString "max", Str.ofString "int", Str.ofString "sum", Str.ofString "sorted", Str.ofString "enumerate"] : List Str) → mg x = none ∧ mb x = bootBuiltins x

/-- room for n frames more -/
structure Room (A : Around) (n : Nat) : Prop where
  h : A.handled = none
  d : A.depth + n < recursionLimit
  u : A.units + 10 * n + 100 < cLine
theorem Room.less {A : Around} {n m : Nat} (r : Room A n) (h : m ≤ n) : Room A m := ⟨r.h, by have := r.d; omega, by have := r.u; omega⟩
theorem Room.room {A : Around} {n : Nat} (r : Room A n) : A.units + 64 < cLine := by have := r.u; omega
theorem Room.deeper {A : Around} {n : Nat} (r : Room A (n + 1)) (env : Env) : Room (A.deeper env) n := ⟨r.h, by have := r.d; show A.depth + 1 + n < _; omega, by have := r.u; show A.units + 3 + 10 * n + 100 < _; omega⟩

structure RelO (B : Heap) (O : Store) (al : List Addr) (h : Heap) : Prop where
  base : ∀ b o, B.get? b = some o → h.get? b = some o
  old : ∀ a ∈ al, B.get? a = none
  own : All2 (LstAt h) al O
  nodup : al.Nodup
theorem RelO.lists {B : Heap} {O : Store} {al : List Addr} {h : Heap} (r : RelO B O al h) : Lists al h := fun a ha => by
  obtain ⟨i, hi⟩ := List.mem_iff_getElem?.mp ha
  obtain ⟨xs, _, hx⟩ := r.own.getL hi
  exact hx.isList
section
variable (prog : Program) (w : World) (B : Heap)
/-- a call of a value -/
def CK (A : Around) (f : Value) (vs : List V) (O : Store) (K : V → Store → Prop) : Prop :=
  ∀ (env : Env) (ρ : Rho) (al : List Addr) (s : Shared) (h0 : Heap) (vals : List Value), Rel B env ρ O al s.heap → AllF al s.heap h0 vals vs → ∀ (Q E : Value → Shared → Prop),
    (∀ v val O' h' tk, K v O' → Rel B env ρ O' al h' → Keep al s.heap h' → VR al h' s.heap val v → Q val { s with heap := h', toks := tk }) →
    wpAny (model prog w) A (call f vals) Q E s
end

section
variable {prog : Program} {w : World} {B : Heap} {A : Around} {env : Env} {ρ : Rho} {O : Store} {mg mb : Str → Option Value}

theorem CK.mono {f : Value} {vs : List V} {K K' : V → Store → Prop} (h : CK prog w B A f vs O K) (hk : ∀ v O, K v O → K' v O) : CK prog w B A f vs O K' :=
  fun env ρ al s h0 vals R r Q E q => h env ρ al s h0 vals R r Q E fun v val O' h' tk k => q v val O' h' tk (hk _ _ k)

inductive IsB : Value → Prop
  | b {id : String} : IsB (.builtin id)
  | t {T : String} : IsB (.type T)
theorem WE_callB {x : Str} {p pos : Pos} {e : Expr} {es : List Expr} {fv : Value} {K : V → Store → Prop} (W : Wd B mg mb) (hx : env.kindOf x = some .globalImplicit)
    (hu : x ∈ ([Str.ofString "len", Str.ofString "range", Str.ofString "min", Str.ofString "max", Str.ofString "int", Str.ofString "sum", Str.ofString "sorted", Str.ofString "enumerate"] : List Str)) (hb : bootBuiltins x = some fv) (hf : IsB fv)
    (h : WL prog w B A env pos (e :: es) ρ O (fun vs O' => CK prog w B A fv vs O' K))
    (he : starEach (e :: es) env = (false, eval e env) :: starEach es env := by rfl) (hp : (backTo pos (starEach es env)).any (·.1) = false := by rfl) (hd : (x == ("__debug__" : Str)) = false := by decide) :
    WE prog w B A env (.Call (.Name x p) (e :: es) [] pos) ρ O K := fun al s R Q E q => by
  obtain ⟨h1, h2⟩ := W.bi x hu
  refine Call_ (Name_function_global R.me.fn hx (loadGlobal_builtin (by rw [R.me.gl]; exact W.g.keeps R.base) h1 (by rw [R.me.bi]; exact W.b.keeps R.base) (h2.trans hb) ?_) hd)
  have go : wpAny (model prog w) A (spliced (backTo pos (starEach (e :: es) env))) (fun vs s₁ => wpAny (model prog w) A (call fv vs) Q E s₁) E s := by
    refine h al s R _ _ fun vs vals O' h' tk hk R' K' r => ?_
    refine hk env ρ al { s with heap := h', toks := tk } s.heap vals R' r _ _ fun v val O₂ h₂ tk₂ hk₂ R₂ K₂ r₂ => ?_
    exact q v val O₂ h₂ tk₂ hk₂ R₂ (K'.trans K₂) (r₂.older K')
  cases hf with
  | b => exact callWith_builtin1 go he hp
  | t => exact callWith_type1 go he hp

theorem AllF.one {al : List Addr} {h h0 : Heap} {vals : List Value} {x : V} (r : AllF al h h0 vals [x]) : ∃ v, vals = [v] ∧ VR al h h0 v x := by
  cases r with
  | cons a _ _ r => cases r; exact ⟨_, rfl, a⟩
theorem AllF.two {al : List Addr} {h h0 : Heap} {vals : List Value} {x y : V} (r : AllF al h h0 vals [x, y]) : ∃ v u h1, vals = [v, u] ∧ VR al h h0 v x ∧ VR al h h1 u y := by
  cases r with
  | cons a _ _ r => obtain ⟨u, rfl, r'⟩ := r.one; exact ⟨_, _, _, rfl, a, r'⟩
theorem AllF.three {al : List Addr} {h h0 : Heap} {vals : List Value} {x y z : V} (r : AllF al h h0 vals [x, y, z]) : ∃ v u t h1 h2, vals = [v, u, t] ∧ VR al h h0 v x ∧ VR al h h1 u y ∧ VR al h h2 t z := by
  cases r with
  | cons a _ _ r => obtain ⟨u, t, h1, rfl, r1, r2⟩ := r.two; exact ⟨_, _, _, _, _, rfl, a, r1, r2⟩

theorem CK_len {a : V} {xs : List It} {K : V → Store → Prop} (ha : ListIs O a xs) (hz : xs.length ≤ 1000000) (h : K (.int xs.length) O) : CK prog w B A (.builtin "len") [a] O K := fun env ρ al s h0 vals R r Q E q => by
  obtain ⟨v, rfl, r'⟩ := r.one
  obtain ⟨l, rfl, vs, hp, hr⟩ := ha.at R.own r'
  have e : (List.toArray vs).size = xs.length := by rw [List.size_toArray]; exact hr.length
  refine len_list hp.isList (by rw [e]; omega) ?_
  rw [e]
  exact q _ _ O s.heap _ h R (.refl ..) ⟨_, rfl⟩
theorem CK_int {n : Int} {K : V → Store → Prop} (h : K (.int n) O) : CK prog w B A (.type "int") [.int n] O K := fun env ρ al s h0 vals R r Q E q => by
  obtain ⟨v, rfl, t, rfl⟩ := r.one
  exact call_int_int (q _ _ O s.heap s.toks h R (.refl ..) ⟨t, rfl⟩)
theorem CK_int_bool {b : Bool} {K : V → Store → Prop} (h : K (.int (if b then 1 else 0)) O) : CK prog w B A (.type "int") [.bool b] O K := fun env ρ al s h0 vals R r Q E q => by
  obtain ⟨v, rfl, r'⟩ := r.one
  have e : v = .bool b := r'
  subst e
  exact call_int_bool (q _ _ O s.heap _ h R (.refl ..) ⟨_, rfl⟩)
theorem CK_max {a b : Int} {K : V → Store → Prop} (hh : A.handled = none) (h : K (.int (if b > a then b else a)) O) : CK prog w B A (.builtin "max") [.int a, .int b] O K := fun env ρ al s h0 vals R r Q E q => by
  obtain ⟨v, u, h1, rfl, ⟨t, rfl⟩, ⟨t', rfl⟩⟩ := r.two
  refine max_two_ints hh fun h' tk hk => ?_
  have z := q (.int (if b > a then b else a)) (.int (if b > a then b else a) (if b > a then t' else t)) O h' tk h (R.keeps hk) (.of_keeps hk) ⟨_, rfl⟩
  by_cases c : b > a
  · simpa only [if_pos c] using z
  · simpa only [if_neg c] using z
theorem CK_min {a b : Int} {K : V → Store → Prop} (hh : A.handled = none) (h : K (.int (if b < a then b else a)) O) : CK prog w B A (.builtin "min") [.int a, .int b] O K := fun env ρ al s h0 vals R r Q E q => by
  obtain ⟨v, u, h1, rfl, ⟨t, rfl⟩, ⟨t', rfl⟩⟩ := r.two
  refine min_two_ints hh fun h' tk hk => ?_
  have z := q (.int (if b < a then b else a)) (.int (if b < a then b else a) (if b < a then t' else t)) O h' tk h (R.keeps hk) (.of_keeps hk) ⟨_, rfl⟩
  by_cases c : b < a
  · simpa only [if_pos c] using z
  · simpa only [if_neg c] using z

/-! a range's items -/
theorem WI_range {p pos : Pos} {e : Expr} {es : List Expr} {K : List It → Store → Prop} (W : Wd B mg mb) (hh : A.handled = none) (hx : env.kindOf "range" = some .globalImplicit)
    (h : WL prog w B A env pos (e :: es) ρ O (fun vs O' => ∃ a b c n, (vs = [.int b] ∧ a = 0 ∧ c = 1 ∨ vs = [.int a, .int b] ∧ c = 1 ∨ vs = [.int a, .int b, .int c]) ∧ c ≠ 0 ∧ c.natAbs < 1073741824 ∧
      Builtin.Range.small a b c = true ∧ Builtin.Range.rangeSize a b c = ((n : Nat) : Int) ∧ K (rangeL a c n) O'))
    (he : starEach (e :: es) env = (false, eval e env) :: starEach es env := by rfl) (hp : (backTo pos (starEach es env)).any (·.1) = false := by rfl) :
    WI prog w B A env (.Call (.Name "range" p) (e :: es) [] pos) ρ O K := fun al s R Q E q => by
  obtain ⟨h1, h2⟩ := W.bi "range" (by simp)
  refine Call_ (Name_function_global R.me.fn hx (loadGlobal_builtin (by rw [R.me.gl]; exact W.g.keeps R.base) h1 (by rw [R.me.bi]; exact W.b.keeps R.base) (v := .type "range") (h2.trans (by with_unfolding_all rfl)) ?_) (by decide))
  refine callWith_type1 ?_ he hp
  refine h al s R _ _ fun vs vals O' h' tk hk R' K' r => ?_
  obtain ⟨a, b, c, n, hv, hc0, hcs, hsm, hn, hk⟩ := hk
  have fin : ∀ {t u v : Tok} {tk'}, wpAny (model prog w) A (pyIter (.ref h'.objs.size)) Q E { s with heap := h'.push { cls := .type "range", data := .fields #[.int a t, .int b u, .int c v] }, toks := tk' } := fun {t u v tk'} => by
    have kp : ∀ b' o, h'.get? b' = some o → (h'.push { cls := .type "range", data := .fields #[.int a t, .int b u, .int c v] }).get? b' = some o := fun b o e => Heap.get?_push_of_some _ e
    refine iter_range (s := { s with heap := h'.push { cls := .type "range", data := .fields #[.int a t, .int b u, .int c v] }, toks := tk' }) hh (R'.keeps kp) (IsRange.new ..) hsm hn fun h₂ I R₂ K₂ e ok => ?_
    have k2 : Keep al s.heap (h'.push { cls := .type "range", data := .fields #[.int a t, .int b u, .int c v] }) := K'.trans (.of_keeps kp)
    exact q _ O' h₂ tk' I hk R₂ (k2.trans K₂) (by rw [e]; exact k2.fresh (R'.keeps kp).lists) ok
  rcases hv with ⟨rfl, rfl, rfl⟩ | ⟨rfl, rfl⟩ | rfl
  · obtain ⟨v, rfl, t, rfl⟩ := r.one
    exact call_range_1 fin
  · obtain ⟨v, u, h1, rfl, ⟨t, rfl⟩, ⟨t', rfl⟩⟩ := r.two
    exact call_range_2 fin
  · obtain ⟨v, u, z, h1, h2, rfl, ⟨t, rfl⟩, ⟨t', rfl⟩, ⟨t'', rfl⟩⟩ := r.three
    exact call_range_3 hc0 fin (.inl (PyProof.noPylong_small hcs))

/-! the program's own functions -/
def retV (n : Nat) (O : Store) : V → V
  | .own k => if n ≤ k then .fresh (O.getD k []) else .own k
  | v => v
def retF (n : Nat) (O : Store) : Fl → V
  | .next => .none
  | .ret v => retV n O v
def rho0 (ps : List Str) (vs : List V) (ls : List Str) : Rho := (ps.zip vs).map (fun p => (p.1, some p.2.hold)) ++ ls.map fun l => (l, none)
def scopeOk (scope : Scope) (ps ls : List Str) : Bool :=
  ps.all (fun x => decide (scope.names.lookup x = some .local)) && ls.all (fun x => decide (scope.names.lookup x = some .local ∨ scope.names.lookup x = some .cell)) && decide ((ps ++ ls).Nodup) &&
    decide (scope.kind = .function) && !scope.isCoroutine && !scope.isGenerator

theorem bindL_other {kindOf : Str → Option NameKind} : ∀ {l : List (Str × Value)} {m : Str → Option Value} {x : Str}, x ∉ l.map (·.1) → bindL kindOf l m x = m x
  | [], _, _, _ => rfl
  | (n, v) :: r, m, x, h => by
    rw [List.map_cons, List.mem_cons, not_or] at h
    unfold bindL
    rw [bindL_other h.2]
    split
    · simp [h.1]
    · rfl
theorem bindL_at {kindOf : Str → Option NameKind} : ∀ {l : List (Str × Value)} {m : Str → Option Value} {x : Str} {v : Value}, (l.map (·.1)).Nodup → (∀ p ∈ l, kindOf p.1 = some .local) → (x, v) ∈ l → bindL kindOf l m x = some v
  | (n, u) :: r, m, x, v, nd, hk, h => by
    rw [List.map_cons, List.nodup_cons] at nd
    unfold bindL
    rw [if_pos (hk (n, u) (.head _))]
    rcases List.mem_cons.mp h with e | h
    · cases e
      rw [bindL_other nd.1]; simp
    · exact bindL_at nd.2 (fun p hp => hk p (.tail _ hp)) h

theorem AllF.zip {al : List Addr} {h h0 : Heap} {vals : List Value} {vs : List V} (r : AllF al h h0 vals vs) : ∀ {ps : List Str} {x : Str} {o : Option V}, (x, o) ∈ (ps.zip vs).map (fun p => (p.1, some p.2.hold)) → ∃ val v, (x, val) ∈ ps.zip vals ∧ o = some v ∧ VH al h val v := by
  induction r with
  | nil => intro ps x o hm; cases ps <;> simp at hm
  | @cons n n1 v y vs ys a _ _ _ ih =>
    intro ps x o hm
    cases ps with
    | nil => simp at hm
    | cons p ps =>
      rw [List.zip_cons_cons, List.map_cons] at hm
      rcases List.mem_cons.mp hm with e | hm
      · cases e
        exact ⟨v, _, .head _, rfl, a.hold⟩
      · obtain ⟨val, u, h1, h2, h3⟩ := ih hm
        exact ⟨val, u, .tail _ h1, h2, h3⟩
theorem AllF.length {al : List Addr} {h h0 : Heap} {vals : List Value} {vs : List V} (r : AllF al h h0 vals vs) : vals.length = vs.length := by
  induction r with
  | nil => rfl
  | cons _ _ _ _ ih => simp [ih]

theorem call_core {name : Str} {params : Arguments} {body : List Stmt} {scope : Scope} {pm cd doc : Value} {f : Addr} {o : Obj} {n : Nat} {ps ls : List Str} {vs : List V} {K : V → Store → Prop} (W : Wd B mg mb) (hA : Room A (n + 1))
    (hf : B.get? f = some o) (hd : o.data = .func (docDef name params body scope pm cd doc)) (hcd : B.CodeRec cd name) (hsc : scopeOk scope ps ls = true) (hl : vs.length = ps.length)
    (hbind : ∀ vals : List Value, vals.length = ps.length → bindArgs (docDef name params body scope pm cd doc) ⟨vals, []⟩ = pure (ps.zip vals))
    (h : ∀ (A' : Around) (L : Addr) (cl : List (Str × Addr)), Room A' n → WS prog w B A' (newEnv scope L mainGlobals cl (name ++ ".<locals>.") (some f) cd none builtinsNs) body (rho0 ps vs ls) O (fun fl ρ' O' => K (retF O.length O' fl) (O'.take O.length))) :
    ∀ (al : List Addr) (s : Shared) (h0 : Heap) (vals : List Value), RelO B O al s.heap → AllF al s.heap h0 vals vs → ∀ (Q E : Value → Shared → Prop),
    (∀ v val O' h' tk, K v O' → All2 (LstAt h') al O' → Keep al s.heap h' → VR al h' s.heap val v → Q val { s with heap := h', toks := tk }) →
    wpAny (model prog w) A (call (.ref f) vals) Q E s := fun al s h0 vals R r Q E q => by
  unfold scopeOk at hsc
  simp only [Bool.and_eq_true, List.all_eq_true, decide_eq_true_eq, Bool.not_eq_true'] at hsc
  obtain ⟨⟨⟨⟨⟨s1, s2⟩, s3⟩, s4⟩, s5⟩, s6⟩ := hsc
  have hlv : vals.length = ps.length := r.length.trans hl
  have hmem : ∀ p ∈ ps.zip vals, p.1 ∈ ps := fun p hp => (List.of_mem_zip (a := p.1) (b := p.2) hp).1
  refine wpAny_call ?_
  have hroom : A.depth < recursionLimit := by have := hA.d; omega
  refine codeAny_call_cells hroom (R.base _ _ hf) hd (W.lim.keeps R.base) (hcd.keeps R.base) rfl (hbind vals hlv) rfl (fun x hx => .inl (s1 _ (hmem x hx))) (fun s₁ x => ?_) s5 s6 s4
  -- the frame of the call
  generalize hE : callEnvC (docDef name params body scope pm cd doc) s.heap.objs.size f = env' at x ⊢
  have eE : env' = newEnv scope s.heap.objs.size mainGlobals (cellsFrom (s.heap.objs.size + 1) scope.names []) (name ++ ".<locals>.") (some f) cd none builtinsNs := hE.symm
  have eL : env'.locals = s.heap.objs.size := by rw [eE]; rfl
  have eK : ∀ y, env'.kindOf y = scope.names.lookup y := fun y => by rw [eE]; rfl
  obtain ⟨h₁, tk₁, rfl, hk₁⟩ := x.done
  have fresh : ∀ a o', s.heap.objs.size ≤ a → B.get? a = some o' → False := fun a o' hle e => absurd (Heap.lt_size (R.base a o' e)) (Nat.not_lt.mpr hle)
  have noneB : ∀ a, s.heap.objs.size ≤ a → B.get? a = none := fun a hle => by
    cases e : B.get? a with
    | none => rfl
    | some o' => exact (fresh a o' hle e).elim
  have me : Own B env' h₁ := by
    refine ⟨by rw [eE]; exact s4, by rw [eE]; rfl, by rw [eE]; rfl, ⟨_, x.toInCall.ns⟩, noneB _ (by rw [eL]; exact Nat.le_refl _), fun y c e => ⟨noneB c ?_, _, x.cell y c e⟩, fun y z c e1 e2 => ?_⟩
    · have := x.above y c (mem_of_lookup e)
      rw [eL] at this; exact Nat.le_of_lt this
    · exact name_of_addr x.apart (mem_of_lookup e1) (mem_of_lookup e2)
  have kp : Keep al s.heap h₁ := .of_keeps hk₁
  have hnd : ((rho0 ps vs ls).map (·.1)).Nodup := by
    have : (rho0 ps vs ls).map (·.1) = ps ++ ls := by
      unfold rho0
      rw [List.map_append, List.map_map, List.map_map]
      congr 1
      · have : ∀ {ps : List Str} {vs : List V}, vs.length = ps.length → (ps.zip vs).map ((fun x : Str × Option V => x.1) ∘ fun p => (p.1, some p.2.hold)) = ps := by
          intro ps
          induction ps with
          | nil => intro vs _; simp
          | cons p ps ih => intro vs h; cases vs with
            | nil => simp at h
            | cons v vs => simp only [List.zip_cons_cons, List.map_cons]; rw [ih (by simpa using h)]; rfl
        exact this hl
      · simp [Function.comp_def]
    rw [this]; exact s3
  have ndz : ((ps.zip vals).map (·.1)).Nodup := by
    have : (ps.zip vals).map (·.1) = ps := by rw [List.map_fst_zip]; omega
    rw [this]; exact (List.nodup_append.mp s3).1
  have R' : Rel B env' (rho0 ps vs ls) O al h₁ := by
    refine ⟨fun b o' e => hk₁ b o' (R.base b o' e), R.old, R.own.mono fun a xs l => ?_, R.nodup, me, fun y oy hy => ?_, hnd⟩
    · obtain ⟨ws, ⟨n', e⟩, rs⟩ := l
      exact ⟨ws, ⟨n', hk₁ _ _ e⟩, rs.mono fun _ _ t => t.keeps hk₁⟩
    · unfold rho0 at hy
      rcases List.mem_append.mp hy with hy | hy
      · obtain ⟨val, v, hz, rfl, hv⟩ := r.zip hy
        refine .inl ⟨by rw [eK]; exact s1 _ (hmem _ hz), fun v' e => ?_⟩
        cases e
        refine ⟨_, val, x.toInCall.ns, bindL_at ndz (fun p hp => by rw [eK]; exact s1 _ (hmem p hp)) hz, hv.keep R.lists kp⟩
      · obtain ⟨l, hl', e⟩ := List.mem_map.mp hy
        cases e
        rcases s2 y hl' with e | e
        · exact .inl ⟨by rw [eK]; exact e, fun v e => by cases e⟩
        · have hcs : (env'.cells.lookup y).isSome = true := by
            rw [eE]; exact cellsFrom_some _ _ _ (.inl e)
          obtain ⟨c, hc⟩ := Option.isSome_iff_exists.mp hcs
          exact .inr ⟨by rw [eK]; exact e, c, _, hc, x.cell y c hc, fun v e => by cases e⟩
  have hw := h (A.deeper env') s.heap.objs.size (cellsFrom (s.heap.objs.size + 1) scope.names []) (hA.deeper env')
  rw [← eE] at hw
  refine hw al { s with heap := h₁, toks := tk₁ } R' _ _ fun fl fw ρ₂ O₂ al₂ h₂ tk₂ hk₂ hf₂ R₂ K₂ X₂ => ?_
  -- back in the caller
  have back : Keep al s.heap h₂ := ⟨fun b o' hb e => by
    have hlt := Heap.lt_size e
    refine K₂.get b o' hb (by rw [eL]; exact Nat.ne_of_lt hlt) (fun y hy => ?_) (hk₁ b o' e)
    have := x.above y b (mem_of_lookup hy)
    rw [eL] at this
    exact absurd hlt (Nat.not_lt.mpr (Nat.le_of_lt this))⟩
  obtain ⟨ext, rfl, hext⟩ := X₂
  have hlen : al.length = O.length := R.own.length
  have own₂ : All2 (LstAt h₂) al (O₂.take O.length) := by
    have := R₂.own.take O.length
    rw [← hlen, List.take_left] at this
    rw [← hlen]; exact this
  have R₃ := own₂
  have toAl : ∀ {val : Value} {v : V}, VR (al ++ ext) h₂ h₁ val v → VR al h₂ s.heap val (retV O.length O₂ v) := fun {val v} r => by
    cases v with
    | none => exact r
    | bool b => exact r
    | it y => exact r
    | lst ys => obtain ⟨a, e, ha, l⟩ := r; exact ⟨a, e, fun hm => ha (List.mem_append_left _ hm), l⟩
    | fresh ys =>
      obtain ⟨a, e, ha, hn, l⟩ := r
      refine ⟨a, e, fun hm => ha (List.mem_append_left _ hm), ?_, l⟩
      cases e2 : s.heap.get? a with
      | none => rfl
      | some o' => rw [hk₁ a o' e2] at hn; cases hn
    | own k =>
      obtain ⟨a, ha, e⟩ := r
      by_cases hle : O.length ≤ k
      · have er : retV O.length O₂ (.own k) = .fresh (O₂.getD k []) := if_pos hle
        rw [er]
        obtain ⟨ys, hy, l⟩ := R₂.own.getL ha
        have hin : a ∈ ext := by
          rw [List.getElem?_append_right (by omega)] at ha
          exact List.mem_of_getElem? ha
        have hget : O₂.getD k [] = ys := by simp [List.getD, hy]
        rw [hget]
        refine ⟨a, e, fun hm => ?_, ?_, l⟩
        · exact (List.nodup_append.mp R₂.nodup).2.2 a hm a hin rfl
        · cases e2 : s.heap.get? a with
          | none => rfl
          | some o' => have := hext a hin; rw [show ({ s with heap := h₁, toks := tk₁ } : Shared).heap = h₁ from rfl, hk₁ a o' e2] at this; cases this
      · have er : retV O.length O₂ (.own k) = .own k := if_neg hle
        rw [er]
        exact ⟨a, by rw [List.getElem?_append_left (by omega)] at ha; exact ha, e⟩
  cases fl with
  | next =>
    have e : fw = .next := hf₂
    subst e
    exact q .none .none _ h₂ tk₂ hk₂ R₃ back rfl
  | ret v =>
    obtain ⟨val, rfl, r₂⟩ := hf₂
    exact q _ val _ h₂ tk₂ hk₂ R₃ back (toAl r₂)
theorem CK_def {name : Str} {params : Arguments} {body : List Stmt} {scope : Scope} {pm cd doc : Value} {f : Addr} {o : Obj} {n : Nat} {ps ls : List Str} {vs : List V} {K : V → Store → Prop} (W : Wd B mg mb) (hA : Room A (n + 1))
    (hf : B.get? f = some o) (hd : o.data = .func (docDef name params body scope pm cd doc)) (hcd : B.CodeRec cd name) (hsc : scopeOk scope ps ls = true) (hl : vs.length = ps.length)
    (hbind : ∀ vals : List Value, vals.length = ps.length → bindArgs (docDef name params body scope pm cd doc) ⟨vals, []⟩ = pure (ps.zip vals))
    (h : ∀ (A' : Around) (L : Addr) (cl : List (Str × Addr)), Room A' n → WS prog w B A' (newEnv scope L mainGlobals cl (name ++ ".<locals>.") (some f) cd none builtinsNs) body (rho0 ps vs ls) O (fun fl ρ' O' => K (retF O.length O' fl) (O'.take O.length))) :
    CK prog w B A (.ref f) vs O K := fun env ρ al s h0 vals R r Q E q =>
  call_core W hA hf hd hcd hsc hl hbind h al s h0 vals ⟨R.base, R.old, R.own, R.nodup⟩ r Q E fun v val O' h' tk hk own' k r' => q v val O' h' tk hk (R.keep k own') k r'

end

section
variable {prog : Program} {w : World} {B : Heap} {A : Around} {env : Env} {ρ : Rho} {O : Store} {mg mb : Str → Option Value}

theorem WE_callF {x : Str} {p pos : Pos} {e : Expr} {es : List Expr} {f : Addr} {o : Obj} {fd : FuncData} {K : V → Store → Prop} (W : Wd B mg mb) (hx : env.kindOf x = some .globalImplicit)
    (hf : mg x = some (.ref f)) (ho : B.get? f = some o) (hd : o.data = .func fd)
    (h : WL prog w B A env pos (e :: es) ρ O (fun vs O' => CK prog w B A (.ref f) vs O' K))
    (he : starEach (e :: es) env = (false, eval e env) :: starEach es env := by rfl) (hd' : (x == ("__debug__" : Str)) = false := by decide) :
    WE prog w B A env (.Call (.Name x p) (e :: es) [] pos) ρ O K := fun al s R Q E q => by
  refine Call_ (Name_function_global R.me.fn hx (loadGlobal_global (by rw [R.me.gl]; exact W.g.keeps R.base) hf ?_) hd')
  refine callWith_def hd ?_ he
  refine h al s R _ _ fun vs vals O' h' tk hk R' K' r => ⟨R'.base _ _ ho, ?_⟩
  refine hk env ρ al { s with heap := h', toks := tk } s.heap vals R' r _ _ fun v val O₂ h₂ tk₂ hk₂ R₂ K₂ r₂ => ?_
  exact q v val O₂ h₂ tk₂ hk₂ R₂ (K'.trans K₂) (r₂.older K')

/-- a new list at the heap's end -/
theorem fresh_push {al : List Addr} {s : Shared} {xs : List It} {vs : List Value} (R : Rel B env ρ O al s.heap) (hr : All2 (ItR s.heap) vs xs) :
    VR al (s.heap.push { cls := .type "list", data := .seq (List.toArray vs) }) s.heap (.ref s.heap.objs.size) (.fresh xs) :=
  ⟨_, rfl, fun hm => (by
    obtain ⟨its, o, ho, _⟩ := R.lists _ hm
    exact absurd (Heap.lt_size ho) (Nat.lt_irrefl _)), Heap.get?_none_of_le (Nat.le_refl _), vs, ⟨0, Heap.get?_push_size _ rfl⟩, hr.mono fun _ _ t => t.keeps fun b o e => Heap.get?_push_of_some _ e⟩

theorem Op_add_lst {a b : V} {xs ys : List It} {C : V → Prop} (ha : ListIs O a xs) (hb : ListIs O b ys) (hz : xs.length + ys.length ≤ 1000000) (h : C (.fresh (xs ++ ys))) : Op2 prog w B A O (binaryOp .Add) a b C := fun env ρ al s h0 va vb R ra rb Q E q => by
  obtain ⟨a', rfl, va, ⟨na, pa⟩, la⟩ := ha.at R.own ra
  obtain ⟨b', rfl, vb, ⟨nb, pb⟩, lb⟩ := hb.at R.own rb
  have l1 := la.length
  have l2 := lb.length
  refine concat_meets ⟨_, pa, rfl⟩ ⟨_, pb, rfl⟩ noFill_list_add seq_list_add PySem.F.slot_list_add PySem.F.entry_list_add (PySem.F.args_list_add_2 _ _) (list_addW a' b' (List.toArray va) (List.toArray vb) na nb none none #[] #[] (by rw [List.size_toArray, List.size_toArray, sizeLine_eq]; omega)) ⟨pa, pb, ?_⟩
  have e : List.toArray va ++ List.toArray vb = List.toArray (va ++ vb) := by simp
  rw [e]
  exact q _ _ _ s.toks h (R.keeps fun b o e => Heap.get?_push_of_some _ e) (.push ..) (fresh_push R (la.append lb))

theorem WE_slice {x : Str} {p sp pos : Pos} {e : Expr} {K : V → Store → Prop}
    (h : WE prog w B A env (.Name x p) ρ O (fun a O₁ => WE prog w B A env e ρ O₁ (fun b O₂ => ∃ xs n, ListIs O₂ a xs ∧ b = .int ((n : Nat) : Int) ∧ xs.length ≤ 1000000 ∧ K (.fresh (xs.take n)) O₂))) :
    WE prog w B A env (.Subscript (.Name x p) (.Slice none (some e) none sp) pos) ρ O K := fun al s R Q E q => by
  refine wpAny_Subscript_list_slice (h al s R _ _ fun a va O₁ h₁ tk₁ hk R₁ K₁ r₁ => ?_)
  rw [evalPart_none]
  refine wpAny_pure ?_
  rw [evalPart_some]
  refine hk al { s with heap := h₁, toks := tk₁ } R₁ _ _ fun b vb O₂ h₂ tk₂ hk₂ R₂ K₂ r₂ => ?_
  obtain ⟨xs, n, hl, rfl, hz, hk₂⟩ := hk₂
  obtain ⟨t, rfl⟩ := r₂
  obtain ⟨a', rfl, vs, ⟨na, pa⟩, la⟩ := hl.at R₂.own (r₁.keep R₁.lists K₂)
  have l1 := la.length
  refine ⟨a', List.toArray vs, none, some (n : Int), rfl, ⟨_, pa, rfl, na, rfl⟩, by rw [List.size_toArray, sizeLine_eq]; omega, .none, .int _ _, ?_⟩
  rw [slicePick_upto']
  have k1 : Keep al h₂ (h₂.push { cls := .type "slice", data := .fields #[.none, .int n t, .none] }) := .push ..
  have R3 := R₂.keeps (h' := h₂.push { cls := .type "slice", data := .fields #[.none, .int n t, .none] }) fun b o e => Heap.get?_push_of_some _ e
  have z := fresh_push (s := { s with heap := h₂.push { cls := .type "slice", data := .fields #[.none, .int n t, .none] } }) R3 ((la.take n).mono fun _ _ r => r.keeps fun b o e => Heap.get?_push_of_some _ e)
  have hs : (h₂.push { cls := .type "slice", data := .fields #[.none, .int n t, .none] }).objs.size = h₂.objs.size + 1 := Heap.size_push ..
  rw [show ({ s with heap := h₂.push { cls := .type "slice", data := .fields #[.none, .int n t, .none] } } : Shared).heap.objs.size = h₂.objs.size + 1 from hs] at z
  have K3 : Keep al s.heap (h₂.push { cls := .type "slice", data := .fields #[.none, .int n t, .none] }) := K₁.trans (K₂.trans k1)
  exact q _ _ O₂ _ tk₂ hk₂ (R3.keeps fun b o e => Heap.get?_push_of_some _ e) (K3.trans (.push ..)) (z.older K3)

theorem ints_items {vs : List Value} {ns : List Int} (r : All2 IntR vs ns) : ∃ xs : List (Int × Tok), vs = xs.map (fun p => Value.int p.1 p.2) ∧ xs.map (·.1) = ns := by
  induction r with
  | nil => exact ⟨[], rfl, rfl⟩
  | @cons v n _ _ a _ ih =>
    obtain ⟨t, rfl⟩ := a
    obtain ⟨xs, e1, e2⟩ := ih
    exact ⟨(n, t) :: xs, by simp [e1], by simp [e2]⟩
theorem All2.unmap {h : Heap} : ∀ {vs : List Value} {ns : List Int}, All2 (ItR h) vs (ns.map Sum.inl) → All2 IntR vs ns
  | [], [], _ => .nil
  | v :: vs, n :: ns, r => by cases r with | cons a r => exact .cons a (All2.unmap r)
  | [], _ :: _, r => nomatch r
  | _ :: _, [], r => nomatch r
theorem CK_sum {a : V} {ns : List Int} {K : V → Store → Prop} (hh : A.handled = none) (ha : ListIs O a (ns.map Sum.inl)) (h : K (.int ns.sum) O) : CK prog w B A (.builtin "sum") [a] O K := fun env ρ al s h0 vals R r Q E q => by
  obtain ⟨v, rfl, r'⟩ := r.one
  obtain ⟨l, rfl, vs, hp, hr⟩ := ha.at R.own r'
  obtain ⟨xs, rfl, rfl⟩ := ints_items hr.unmap
  have hl : s.heap.IsList l (intItems xs.toArray) := by
    have e : intItems xs.toArray = List.toArray (xs.map fun p => Value.int p.1 p.2) := by simp [intItems]
    rw [e]; exact hp.isList
  refine sum_intListG hh hl fun h' tk t' hk => ?_
  rw [preSum_eq, List.take_of_length_le (by simp)]
  exact q _ _ O h' tk h (R.keeps hk) (.of_keeps hk) ⟨t', rfl⟩

theorem Op_pow18 {C : V → Prop} (h : C (.int 1000000000000000000)) : Op2 prog w B A O (binaryOp .Pow) (.int 10) (.int 18) C := .ints fun tx ty s Q E q => by
  refine AutoIntOps.pow_4 (by decide) (by decide) (by decide) (by decide) (by decide +kernel) ?_
  exact q (.int 1000000000000000000) _ _ h fun _ _ _ => ⟨_, rfl⟩
end

/-- two objects made of fields are turned -/
theorem stay_of2 {h h' : Heap} {I J : Addr} (hI : ∃ o fs, h.get? I = some o ∧ o.data = .fields fs) (hJ : ∃ o fs, h.get? J = some o ∧ o.data = .fields fs) (k : ∀ b o, b ≠ I → b ≠ J → h.get? b = some o → h'.get? b = some o) : Stay h h' := fun b o e n =>
  k b o (fun q => by
    obtain ⟨o', fs, ho, hd⟩ := hI
    rw [← q, e] at ho; cases ho
    exact n _ hd) (fun q => by
    obtain ⟨o', fs, ho, hd⟩ := hJ
    rw [← q, e] at ho; cases ho
    exact n _ hd) e
def ForE (prog : Program) (w : World) (B : Heap) (A : Around) (env : Env) (n m : Str) (body : List Stmt) (K : Fl → Rho → Store → Prop) : Nat → List It → Rho → Store → Prop
  | _, [], ρ, O => K .next ρ O
  | i, x :: xs, ρ, O => ∃ ρ', PutAll ρ [n, m] [.int ((i : Nat) : Int), .it x] ρ' ∧ WS prog w B A env body ρ' O (Then (ForE prog w B A env n m body K (i + 1) xs) K)
section
variable {prog : Program} {w : World} {B : Heap} {A : Around} {env : Env} {ρ : Rho} {O : Store} {mg mb : Str → Option Value}
theorem W1_ForEnum {n m : Str} {pn pm p cpos tpos pos : Pos} {k : Nat} {e : Expr} {body : List Stmt} {K : Fl → Rho → Store → Prop} (W : Wd B mg mb) (hh : A.handled = none) (hx : env.kindOf "enumerate" = some .globalImplicit)
    (h : WL prog w B A env cpos [e] ρ O (fun vs O' => ∃ xs, (vs = [.lst xs] ∨ vs = [.fresh xs]) ∧ ForE prog w B A env n m body K 0 xs ρ O'))
    (he : starEach [e] env = (false, eval e env) :: starEach [] env := by rfl) (hp : (backTo cpos (starEach [] env)).any (·.1) = false := by rfl)
    (hs : ∀ x, foldedSetIterable (.Call (.Name "enumerate" p) [e] [] cpos) env x = pure x := by intro _; rfl) :
    W1 prog w B A env (.For (.Tuple [.Name n pn, .Name m pm] k tpos) (.Call (.Name "enumerate" p) [e] [] cpos) body [] pos) ρ O K := fun al s R Q E q => by
  obtain ⟨h1, h2⟩ := W.bi "enumerate" (by simp)
  refine wpAny_For (Call_ (Name_function_global R.me.fn hx (loadGlobal_builtin (by rw [R.me.gl]; exact W.g.keeps R.base) h1 (by rw [R.me.bi]; exact W.b.keeps R.base) (v := .type "enumerate") (h2.trans (by with_unfolding_all rfl)) ?_) (by decide))) hs
  refine callWith_type1 ?_ he hp
  refine h al s R _ _ fun vs vals O' h' tk hk R' K' r => ?_
  obtain ⟨xs, hv, hk⟩ := hk
  have : ∃ a, vals = [.ref a] ∧ a ∉ al ∧ LstAt h' a xs := by
    rcases hv with rfl | rfl
    · obtain ⟨v, rfl, a, rfl, r'⟩ := r.one; exact ⟨a, rfl, r'⟩
    · obtain ⟨v, rfl, a, rfl, ha, _, l⟩ := r.one; exact ⟨a, rfl, ha, l⟩
  obtain ⟨l, rfl, hl, L⟩ := this
  obtain ⟨vs, hpl, hr⟩ := id L
  refine call_enumerate_list (s := { s with heap := h', toks := tk }) hpl.isList fun h₂ en it₂ hz₂ k₂ => ?_
  refine wpAny_pyIter_enum en ?_
  have R₂ := R'.keeps k₂
  have K₂ : Keep al s.heap h₂ := K'.trans (.of_keeps k₂)
  generalize hI : h'.objs.size = it at en it₂ hz₂
  replace en : IsEnum h₂ (it + 1) it 0 .none := en
  generalize hE : it + 1 = I at en
  have hI' : I = h'.objs.size + 1 := by rw [← hE, ← hI]
  have freshI : s.heap.get? I = none := by
    cases e : s.heap.get? I with
    | none => rfl
    | some o =>
      by_cases hm : I ∈ al
      · obtain ⟨its, o', ho', hc, _⟩ := R₂.lists I hm
        rw [en] at ho'; cases ho'; injection hc with e; exact absurd e (by decide)
      · have := Heap.lt_size (K'.get I o hm e)
        rw [hI'] at this; exact absurd this (Nat.not_lt.mpr (Nat.le_succ _))
  have freshT : s.heap.get? it = none := by rw [← hI]; exact K'.fresh R'.lists
  have hne : I ≠ it := by rw [hI', ← hI]; exact Nat.succ_ne_self _
  have hlI : l ≠ I := by rw [hI']; exact Nat.ne_of_lt (Nat.lt_succ_of_lt L.lt)
  have hlT : l ≠ it := by rw [← hI]; exact Nat.ne_of_lt L.lt
  have apart : ∀ b, s.heap.get? b = none → (∃ o fs, h₂.get? b = some o ∧ o.data = .fields fs) → ApartS env al b := fun b hb ⟨o, fs, ho, hd⟩ => by
    refine ⟨fun hm => ?_, (R.apart (h' := s.heap) hb).2.1, (R.apart (h' := s.heap) hb).2.2⟩
    obtain ⟨its, o', ho', hc, n', hd'⟩ := R₂.lists b hm
    rw [ho] at ho'; cases ho'; rw [hd] at hd'; cases hd'
  obtain ⟨oT, hoT, hcT, hdT⟩ := id it₂
  refine codeAny_forLoop_any (fun m' s' => ∃ i ρ₁ O₁ al₁ h₁ tk₁ old, s' = { s with heap := h₁, toks := tk₁ } ∧ m' = xs.length - i ∧ i ≤ xs.length ∧ Rel B env ρ₁ O₁ al₁ h₁ ∧ KeepS env al s.heap h₁ ∧ Ext s.heap al al₁ ∧
    IsEnum h₁ I it ((i : Nat) : Int) old ∧ h₁.IsListIter it l i ∧ l ∉ al₁ ∧ h₁.PlainList l (List.toArray vs) ∧ ApartS env al₁ I ∧ ApartS env al₁ it ∧ ForE prog w B A env n m body K i (xs.drop i) ρ₁ O₁ ∧ (∀ v x, ItR h₂ v x → ItR h₁ v x)) ?_ xs.length
    ⟨0, ρ, O', al, h₂, tk, .none, rfl, rfl, Nat.zero_le _, R₂, K₂.s, .refl .., en, it₂, hl, (let ⟨n', e'⟩ := hpl; ⟨n', k₂ _ _ e'⟩), apart I freshI ⟨_, _, en, rfl⟩, apart it freshT ⟨_, _, hoT, hdT⟩, hk, fun _ _ r => r⟩
  rintro m' s' ⟨i, ρ₁, O₁, al₁, h₁, tk₁, old, rfl, rfl, hi, R₁, K₁, X₁, en₁, it₁, hl₁, hp₁, aI, aT, hk, hit⟩
  have hlen := hr.length
  obtain ⟨oT₁, hoT₁, hcT₁, hdT₁⟩ := id it₁
  by_cases hlt : i < xs.length
  · obtain ⟨v, hv⟩ : ∃ v, vs[i]? = some v := ⟨_, List.getElem?_eq_getElem (by omega)⟩
    obtain ⟨x, hx, hxr⟩ := hr.getL hv
    have hdrop : xs.drop i = x :: xs.drop (i + 1) := by
      rw [List.drop_eq_getElem_cons hlt]
      congr 1
      exact Option.some.inj ((List.getElem?_eq_getElem hlt).symm.trans hx)
    rw [hdrop] at hk
    obtain ⟨ρ₂, hput, hbody⟩ := hk
    refine wpAny_pyNext_enum_item en₁ it₁ hp₁.isList (by simpa using hv) hne fun h₃ heo it₃ ht₃ hz₃ k₃ => ?_
    refine wpAny_letOwnedTupleGo_enum heo fun h₄ en₄ hs₄ => ?_
    replace hs₄ : Heap.SameBut I h₃ h₄ := hs₄
    have k₄ : ∀ b o, b ≠ I → b ≠ it → h₁.get? b = some o → h₄.get? b = some o := fun b o h1 h2 e => hs₄.extBut b o h1 (k₃ b o h1 h2 e)
    have ht₄ : h₄.IsTuple h₁.objs.size #[.int i tk₁, v] := ⟨_, (hs₄.2 _ (Nat.ne_of_gt (Heap.lt_size en₁))).trans ht₃, rfl, _, rfl⟩
    have hz₄ : h₄.objs.size = h₁.objs.size + 1 := hs₄.1.trans hz₃
    have bI : ∀ b o, B.get? b = some o → b ≠ I := fun b o e q => by rw [q] at e; rw [R.base I o e] at freshI; cases freshI
    have bT : ∀ b o, B.get? b = some o → b ≠ it := fun b o e q => by rw [q] at e; rw [R.base it o e] at freshT; cases freshT
    have stay : Stay h₁ h₄ := stay_of2 ⟨_, _, en₁, rfl⟩ ⟨_, _, hoT₁, hdT₁⟩ k₄
    have R₄ : Rel B env ρ₁ O₁ al₁ h₄ := R₁.stay stay fun b o e => k₄ b o (bI b o e) (bT b o e) (R₁.base b o e)
    have K₄ : KeepS env al s.heap h₄ := ⟨fun b o hb hL hc e => k₄ b o (fun q => by rw [q, freshI] at e; cases e) (fun q => by rw [q, freshT] at e; cases e) (K₁.get b o hb hL hc e)⟩
    refine wpAny_assign_Tuple hh ht₄ rfl rfl fun h₅ hx₅ => ?_
    replace hx₅ : Heap.ExtBut h₄.objs.size h₄ h₅ := hx₅
    have k₅ : ∀ b o, h₄.get? b = some o → h₅.get? b = some o := fun b o e => hx₅ b o (Nat.ne_of_lt (Heap.lt_size e)) e
    have R₅ := R₄.keeps k₅
    have K₅ : KeepS env al s.heap h₅ := K₄.trans X₁ (Keep.of_keeps k₅ : Keep al₁ h₄ h₅).s
    have hxr₁ := hit v x (hxr.keeps k₂)
    have hxr₅ : ItR h₅ v x := (stay.it hxr₁).keeps k₅
    refine assign_names (s := { s with heap := h₅, toks := tk₁ + 1 }) hput (.cons (.cons .nil)) R₅ (.cons ⟨tk₁, rfl⟩ (.cons hxr₅ .nil)) fun h₆ tk₆ R₆ K₆ => ?_
    have K6 : KeepS env al s.heap h₆ := K₅.trans X₁ K₆
    refine hbody al₁ { s with heap := h₆, toks := tk₆ } R₆ _ _ fun fl f ρ₇ O₇ al₇ h₇ tk₇ hk₇ hf R₇ K₇ X₇ => ?_
    have K7 : KeepS env al s.heap h₇ := K6.trans X₁ K₇
    have X7 : Ext s.heap al al₇ := X₁.trans' K6 R₇ X₇
    cases fl with
    | ret v' =>
      obtain ⟨val, rfl, r⟩ := hf
      exact q (.ret v') _ ρ₇ O₇ al₇ h₇ tk₇ hk₇ ⟨val, rfl, VR.olderS K6 R₇ X7 r⟩ R₇ K7 X7
    | next =>
      have e : f = .next := hf
      subst e
      have enA : h₆.get? I = some _ := K₆.get I _ aI.1 aI.2.1 aI.2.2 (k₅ _ _ en₄)
      obtain ⟨oT₄, hoT₄, hcT₄, hdT₄⟩ := id it₃
      have hoT₄' : h₄.get? it = some oT₄ := (hs₄.2 _ (Ne.symm hne)).trans hoT₄
      have itA : h₆.get? it = some oT₄ := K₆.get it _ aT.1 aT.2.1 aT.2.2 (k₅ _ _ hoT₄')
      have aI7 : ApartS env al₇ I := ⟨X₇.notIn aI.1 enA, aI.2⟩
      have aT7 : ApartS env al₇ it := ⟨X₇.notIn aT.1 itA, aT.2⟩
      obtain ⟨nl, el⟩ := id hp₁
      have el₅ : h₅.get? l = some _ := k₅ _ _ (k₄ l _ hlI hlT el)
      have el₆ := K₆.obj R₅.me hl₁ el₅ (by intro _ _ e; cases e) (by intro _ e; cases e)
      have el₇ := K₇.obj R₆.me hl₁ el₆ (by intro _ _ e; cases e) (by intro _ e; cases e)
      refine ⟨xs.length - (i + 1), by omega, i + 1, ρ₇, O₇, al₇, h₇, tk₇, v, rfl, rfl, hlt, R₇, K7, X7, ?_, ?_, X₇.notIn hl₁ el₆, ⟨nl, el₇⟩, aI7, aT7, hk₇, ?_⟩
      · have : ((i + 1 : Nat) : Int) = (i : Int) + 1 := by push_cast; rfl
        rw [this]
        exact K₇.get I _ aI.1 aI.2.1 aI.2.2 enA
      · exact ⟨oT₄, K₇.get it _ aT.1 aT.2.1 aT.2.2 itA, hcT₄, hdT₄⟩
      · intro v' x' r
        have r5 := (stay.it (hit v' x' r)).keeps k₅
        have r6 := K₆.it R₅.me R₅.lists r5
        exact K₇.it R₆.me R₆.lists r6
  · have hin : i = xs.length := by omega
    subst hin
    have hd : xs.drop xs.length = [] := List.drop_eq_nil_of_le (Nat.le_refl _)
    rw [hd] at hk
    refine wpAny_pyNext_enum_end hh en₁ it₁ hp₁.isList (by simp [hlen]) fun h₃ hx₃ => wpAny_execs_nil ?_
    replace hx₃ : Heap.ExtBut it h₁ h₃ := hx₃
    have bT : ∀ b o, B.get? b = some o → b ≠ it := fun b o e q => by rw [q] at e; rw [R.base it o e] at freshT; cases freshT
    have stay : Stay h₁ h₃ := stay_of ⟨_, _, hoT₁, hdT₁⟩ fun b o hb e => hx₃ b o hb e
    have R₃ : Rel B env ρ₁ O₁ al₁ h₃ := R₁.stay stay fun b o e => hx₃ b o (bT b o e) (R₁.base b o e)
    have K₃ : KeepS env al s.heap h₃ := ⟨fun b o hb hL hc e => hx₃ b o (fun q => by rw [q, freshT] at e; cases e) (K₁.get b o hb hL hc e)⟩
    exact q .next .next ρ₁ O₁ al₁ h₃ tk₁ hk rfl R₃ K₃ X₁
end

/-! sorted, of tuples of ints -/
def lexZ (fin : Bool) : List (Int × Int) → Bool
  | [] => fin
  | (x, y) :: r => if x == y then lexZ fin r else decide (x < y)
def lexLt (a b : List Int) : Bool := lexZ (decide (a.length < b.length)) (a.zip b)
def kasRun {α : Type} (lt : Nat → Nat → Option Bool) : KasT α → Option α
  | .ret a => some a
  | .ask i j k => match lt i j with
    | some b => kasRun lt (k b)
    | none => none
def ltOf (xs : List (List Int)) (i j : Nat) : Option Bool := match xs[i]?, xs[j]? with
  | some a, some b => some (lexLt a b)
  | _, _ => none
def pickAll {α : Type} (xs : List α) : List Nat → Option (List α)
  | [] => some []
  | i :: r => match xs[i]?, pickAll xs r with
    | some a, some b => some (a :: b)
    | _, _ => none
def sortT (xs : List (List Int)) : Option (List (List Int)) := if xs.length < 2 then some xs else match kasRun (ltOf xs) (kas_sort xs.length) with
  | some p => pickAll xs p.toList
  | none => none
theorem kas_pure {α : Type} {lt : Nat → Nat → Option Bool} {cmp : Nat → Nat → (Bool → Shared → Prop) → Shared → Prop} {G : α → Shared → Prop} {s : Shared} (hc : ∀ i j b (C : Bool → Shared → Prop), lt i j = some b → C b s → cmp i j C s) :
    ∀ (t : KasT α) {a : α}, kasRun lt t = some a → G a s → t.kasWp cmp G s
  | .ret a, b, h, g => by
    have e : a = b := by simpa [kasRun] using h
    subst e; exact g
  | .ask i j k, a, h, g => by
    unfold kasRun at h
    cases hl : lt i j with
    | none => rw [hl] at h; cases h
    | some b =>
      rw [hl] at h
      exact hc i j b _ hl (kas_pure hc (k b) h g)
theorem All2.pick {α β : Type} {R : α → β → Prop} {as : List α} {bs : List β} (h : All2 R as bs) (d : α) : ∀ {is : List Nat} {cs : List β}, pickAll bs is = some cs → All2 R (is.map fun i => as.getD i d) cs
  | [], cs, e => by
    have : cs = [] := by simpa [pickAll] using e.symm
    subst this; exact .nil
  | i :: r, cs, e => by
    unfold pickAll at e
    cases hb : bs[i]? with
    | none => rw [hb] at e; simp at e
    | some b =>
      cases hp : pickAll bs r with
      | none => rw [hb, hp] at e; simp at e
      | some c =>
        rw [hb, hp] at e
        have : cs = b :: c := by simpa using e.symm
        subst this
        obtain ⟨a, ha, hr⟩ := h.get hb
        have e2 : as.getD i d = a := by simp [List.getD, ha]
        rw [List.map_cons, e2]
        exact .cons hr (All2.pick h d hp)
def TupR (h : Heap) (v : Value) (ns : List Int) : Prop := ItR h v (.inr ns)
theorem kat_ints {prog : Program} {w : World} {A : Around} {s : Shared} {fin : Bool} {C : Bool → Shared → Prop} {vs us : List Value} {ns ms : List Int} (h1 : All2 IntR vs ns) : ∀ {us ms} (i : Nat), All2 IntR us ms → C (lexZ fin (ns.zip ms)) s →
    KatLex prog w A true fin C (vs.zip us) i s := by
  induction h1 with
  | nil => intro us ms i h2 h; simpa [lexZ] using kat_nil (by simpa [lexZ] using h)
  | @cons v n vs ns a _ ih =>
    intro us ms i h2 h
    cases h2 with
    | nil => simpa [lexZ] using kat_nil (by simpa [lexZ] using h)
    | @cons u m us ms b r =>
      obtain ⟨t, rfl⟩ := a
      obtain ⟨t', rfl⟩ := b
      rw [List.zip_cons_cons] at h ⊢
      unfold lexZ at h
      refine kat_cons (wpAny_eqBool_int ?_)
      cases hq : (n == m) with
      | true =>
        rw [hq] at h
        simp only [if_true] at h
        exact kat_yes (ih (i + 1) r h)
      | false =>
        rw [hq] at h
        simp only [Bool.false_eq_true, if_false] at h
        refine kat_no ?_
        cases hi : (i == 0) with
        | true => exact oneLt_int h
        | false => exact kat_one _ _ (lt_int h)
section
variable {prog : Program} {w : World} {B : Heap} {A : Around} {env : Env} {ρ : Rho} {O : Store}
theorem kas_ask_tups {s : Shared} {vs : List Value} {xs : List (List Int)} {C : Bool → Shared → Prop} (hr : All2 (TupR s.heap) vs xs) {i j : Nat} {b : Bool} (hl : ltOf xs i j = some b) (h : C b s) : kas_ask prog w A (tuples' true) vs i j C s := by
  unfold ltOf at hl
  cases hi : xs[i]? with
  | none => rw [hi] at hl; simp at hl
  | some x =>
    cases hj : xs[j]? with
    | none => rw [hi, hj] at hl; simp at hl
    | some y =>
      rw [hi, hj] at hl
      have hb : lexLt x y = b := by simpa using hl
      obtain ⟨v, hv, a, us, rfl, ⟨o, ho, hc, n, hd⟩, ru⟩ := hr.get hi
      obtain ⟨v', hv', a', us', rfl, ⟨o', ho', hc', n', hd'⟩, ru'⟩ := hr.get hj
      unfold kas_ask
      have e1 : vs.getD i Value.none = .ref a := by simp [List.getD, hv]
      have e2 : vs.getD j Value.none = .ref a' := by simp [List.getD, hv']
      rw [e1, e2]
      refine kat_lt ho hd ho' hd' ?_
      have e3 : decide ((List.toArray us).size < (List.toArray us').size) = decide (x.length < y.length) := by rw [List.size_toArray, List.size_toArray, ru.length, ru'.length]
      rw [e3]
      exact kat_ints (us := us') (ms := y) ru 0 ru' (by rw [← hb] at h; exact h)
theorem tups_kat {h : Heap} {vs : List Value} {xs : List (List Int)} (r : All2 (TupR h) vs xs) (hne : ∀ x ∈ xs, x ≠ []) : ∃ fs, KatTups h vs fs ∧ fs.length = vs.length ∧ ∀ f ∈ fs, ∃ n t, f = .int n t := by
  induction r with
  | nil => exact ⟨[], .nil, rfl, fun _ hf => nomatch hf⟩
  | @cons v x vs xs a _ ih =>
    obtain ⟨fs, k, l, hf⟩ := ih fun x hx => hne x (.tail _ hx)
    obtain ⟨ad, us, rfl, ⟨o, ho, hc, n, hd⟩, ru⟩ := a
    have := hne x (.head _)
    cases ru with
    | nil => exact absurd rfl this
    | @cons u m us ms iu ru =>
      obtain ⟨t, rfl⟩ := iu
      refine ⟨.int m t :: fs, .cons ho hc hd (by simp) k, by simp [l], fun f hf' => ?_⟩
      rcases List.mem_cons.mp hf' with rfl | hf'
      · exact ⟨m, t, rfl⟩
      · exact hf f hf'
theorem looks_int {M : Model} {h : Heap} {n : Int} {t : Tok} : Looks M h (typeOf (.int n t)) (Value.type "int") := .of_pure rfl

theorem list_sort_tups {s : Shared} {E : Value → Shared → Prop} {a : Addr} {vs : List Value} {xs ys : List (List Int)} {n : Nat} {P : PySem.Fin → Shared → Prop} (ho : s.heap.get? a = some (seqObj "list" vs.toArray n))
    (hI : All2 (TupR s.heap) vs xs) (hne : ∀ x ∈ xs, x ≠ []) (h64 : vs.length < 64) (hs : sortT xs = some ys)
    (h : ∀ (out : List Value), All2 (TupR s.heap) out ys → out.length ≤ 1000 → P (.done (.ret .none)) { s with heap := sortedHeap s.heap a vs (List.toArray out) }) :
    wpAny (model prog w) A (Builtin.«list.sort» ⟨[.ref a], []⟩) P E s := by
  rw [list_sort_plain]
  have ha : a < s.heap.objs.size := Heap.lt_size ho
  refine wpAny_bind (listItems_at ho rfl ?_)
  refine wpAny_bind (listUpdate_at ho rfl ?_ (by rw [List.size_toArray, sizeLine_eq]; omega) (Nat.zero_le _))
  obtain ⟨e1, ho1⟩ : ∃ e1, (s.heap.update a (Obj.mapSeq fun _ => #[])).get? a = some (seqObj "list" #[] e1) := ⟨_, get?_update_seq ho (fun _ => #[])⟩
  refine wpAny_bind (seqEpoch_at ho1 rfl ?_)
  refine wpAny_bind (wpAny_newTuple ?_ (by show vs.length ≤ _; rw [sizeLine_eq]; omega))
  refine wpAny_bind (wpAny_newList ?_ (Nat.zero_le _))
  refine wpAny_holding ?_
  have ho6 : (((s.heap.update a (Obj.mapSeq fun _ => #[])).push (seqObj "tuple" vs.toArray 0)).push (seqObj "list" #[] 0)).get? a = some (seqObj "list" #[] e1) := by
    rw [Heap.get?_push_ne _ _ _ (by rw [size_push', Heap.size_update]; exact Nat.ne_of_lt (Nat.lt_succ_of_lt ha)), Heap.get?_push_ne _ _ _ (by rw [Heap.size_update]; exact Nat.ne_of_lt ha)]
    exact ho1
  have keep6 : ∀ b o, b ≠ a → s.heap.get? b = some o → (((s.heap.update a (Obj.mapSeq fun _ => #[])).push (seqObj "tuple" vs.toArray 0)).push (seqObj "list" #[] 0)).get? b = some o := fun b o hb e => by
    have hlt : b < s.heap.objs.size := Heap.lt_size e
    rw [Heap.get?_push_ne _ _ _ (by rw [size_push', Heap.size_update]; exact Nat.ne_of_lt (Nat.lt_succ_of_lt hlt)), Heap.get?_push_ne _ _ _ (by rw [Heap.size_update]; exact Nat.ne_of_lt hlt), Heap.get?_update_ne _ _ _ _ hb]
    exact e
  show wpAny (model prog w) A _ P E { s with heap := ((s.heap.update a (Obj.mapSeq fun _ => #[])).push (seqObj "tuple" vs.toArray 0)).push (seqObj "list" #[] 0) }
  dsimp only
  have hsz : vs.toArray.size = vs.length := by simp
  have hlen := hI.length
  have tupA : ∀ v x, TupR s.heap v x → TupR (((s.heap.update a (Obj.mapSeq fun _ => #[])).push (seqObj "tuple" vs.toArray 0)).push (seqObj "list" #[] 0)) v x := fun v x ⟨ad, us, e, t, r⟩ => by
    refine ⟨ad, us, e, ?_, r⟩
    obtain ⟨o, ho', hc, n', hd⟩ := t
    refine ⟨o, keep6 _ _ (fun q => ?_) ho', hc, n', hd⟩
    rw [q, ho] at ho'; cases ho'; injection hc with e; exact absurd e (by decide)
  by_cases h2 : vs.toArray.size < 2
  · rw [if_pos h2, if_pos h2]
    refine wpAny_bind (wpAny_pure ?_)
    rw [StateT.run_pure]
    refine wpAny_bind (wpAny_pure ?_)
    dsimp only
    refine wpAny_bind (seqEpoch_at ho6 rfl ?_)
    have eo : (arrOf (SortSt.mk' general' (vs.toArray.zip vs.toArray) #[] 7 none)).map (·.2) = List.toArray vs := by
      show (vs.toArray.zip vs.toArray).map (·.2) = _
      apply Array.toList_inj.mp
      rw [Array.toList_map, Array.toList_zip, List.map_snd_zip (by simp)]
    rw [eo]
    refine wpAny_bind (listUpdate_at ho6 rfl ?_ (Nat.zero_le _) (by rw [List.size_toArray, sizeLine_eq]; omega))
    simp only [bne_self_eq_false, Bool.false_eq_true, if_false]
    have ey : ys = xs := by
      unfold sortT at hs
      rw [if_pos (by omega)] at hs
      exact (Option.some.inj hs).symm
    exact wpAny_pure (h vs (ey ▸ hI) (by omega))
  · rw [if_neg h2, if_neg h2]
    rw [hsz] at h2
    unfold sortT at hs
    rw [if_neg (by omega)] at hs
    cases hk : kasRun (ltOf xs) (kas_sort xs.length) with
    | none => rw [hk] at hs; simp at hs
    | some p =>
      rw [hk] at hs
      replace hs : pickAll xs p.toList = some ys := hs
      have hI6 := hI.mono tupA
      obtain ⟨fs, kt, lf, hf⟩ := tups_kat hI6 hne
      refine wpAny_bind (kat_kind (T := Value.type "int") kt (by omega) (fun v hv => by obtain ⟨m, t, rfl⟩ := hf v hv; exact looks_int) (by decide) ?_)
      rw [show (Value.type "int" != Value.type "tuple") = true by decide]
      have ask : (kas_sort vs.length).kasWp (kas_ask prog w A (tuples' true) vs) (fun q s' => q = p ∧ s' = { s with heap := ((s.heap.update a (Obj.mapSeq fun _ => #[])).push (seqObj "tuple" vs.toArray 0)).push (seqObj "list" #[] 0) }) { s with heap := ((s.heap.update a (Obj.mapSeq fun _ => #[])).push (seqObj "tuple" vs.toArray 0)).push (seqObj "list" #[] 0) } := by
        rw [hlen]
        exact kas_pure (lt := ltOf xs) (fun i j b C hl hC => kas_ask_tups (s := { s with heap := ((s.heap.update a (Obj.mapSeq fun _ => #[])).push (seqObj "tuple" vs.toArray 0)).push (seqObj "list" #[] 0) }) hI6 hl hC) _ hk ⟨rfl, rfl⟩
      refine wpAny_bind (wpAny_mono (kat_run (Q := fun st' s' => p.size = vs.length ∧ arrOf st' = p.map (kas_item (vs.toArray.zip vs.toArray)) ∧ failedOf st' = none ∧ s' = { s with heap := ((s.heap.update a (Obj.mapSeq fun _ => #[])).push (seqObj "tuple" vs.toArray 0)).push (seqObj "list" #[] 0) })
        rfl (by omega) h64 (fun p' st' s' a1 a2 a3 a4 => by obtain ⟨rfl, e⟩ := a4; exact ⟨a1, a2, a3, e⟩) ask) ?_ fun _ _ e => e)
      rintro ⟨⟨⟩, st'⟩ s' ⟨hp, har, hfl, rfl⟩
      dsimp only
      have hout := kat_snds rfl har
      rw [hout]
      refine wpAny_bind (seqEpoch_at ho6 rfl ?_)
      have hlo : (p.toList.map fun i => vs.getD i Value.none).length = vs.length := by rw [List.length_map, Array.length_toList, hp]
      refine wpAny_bind (listUpdate_at ho6 rfl ?_ (Nat.zero_le _) (by rw [List.size_toArray, hlo, sizeLine_eq]; omega))
      rw [hfl]
      simp only [bne_self_eq_false, Bool.false_eq_true, if_false]
      exact wpAny_pure (h _ (hI.pick Value.none hs) (by omega))

theorem tups_of {h : Heap} : ∀ {vs : List Value} {xs : List (List Int)}, All2 (ItR h) vs (xs.map Sum.inr) → All2 (TupR h) vs xs
  | [], [], _ => .nil
  | v :: vs, n :: ns, r => by cases r with | cons a r => exact .cons a (tups_of r)
  | [], _ :: _, r => nomatch r
  | _ :: _, [], r => nomatch r
theorem tups_to {h : Heap} {vs : List Value} {xs : List (List Int)} (r : All2 (TupR h) vs xs) : All2 (ItR h) vs (xs.map Sum.inr) := by
  induction r with
  | nil => exact .nil
  | cons a _ ih => exact .cons a ih
theorem CK_sorted {a : V} {xs ys : List (List Int)} {K : V → Store → Prop} (ha : ListIs O a (xs.map Sum.inr)) (hne : ∀ x ∈ xs, x ≠ []) (h64 : xs.length < 64) (hs : sortT xs = some ys) (h : K (.fresh (ys.map Sum.inr)) O) :
    CK prog w B A (.builtin "sorted") [a] O K := fun env ρ al s h0 vals R r Q E q => by
  obtain ⟨v, rfl, r'⟩ := r.one
  obtain ⟨l, rfl, vs, hp, hr⟩ := ha.at R.own r'
  have hI := tups_of hr
  have hlen := hI.length
  refine Calls.call_function_entry kind_sorted plain_sorted entry_sorted (args_sorted1 _) ?_
  unfold Builtin.«sorted»
  refine wpAny_bind (m := checkCount "sorted" 1 1 _) (wpAny_pure ?_)
  refine wpAny_bind (collect_list hp.isList ?_ (by rw [sizeLine_eq]; omega))
  refine wpAny_bind (wpAny_newList ?_ (by rw [sizeLine_eq]; omega))
  have hsz : ((s.heap.push (seqObj "list" #[] 0)).update s.heap.objs.size (Obj.mapSeq (· ++ vs.toArray))).objs.size = s.heap.objs.size + 1 := by
    rw [Heap.size_update, size_push']
  have hoL : (((s.heap.push (seqObj "list" #[] 0)).update s.heap.objs.size (Obj.mapSeq (· ++ vs.toArray))).push (seqObj "list" vs.toArray 0)).get? (s.heap.objs.size + 1) = some (seqObj "list" vs.toArray 0) := by
    rw [← hsz]; exact Heap.get?_push_size _ rfl
  have keep : ∀ b o, s.heap.get? b = some o → (((s.heap.push (seqObj "list" #[] 0)).update s.heap.objs.size (Obj.mapSeq (· ++ vs.toArray))).push (seqObj "list" vs.toArray 0)).get? b = some o := fun b o q => by
    have hlt : b < s.heap.objs.size := Heap.lt_size q
    rw [Heap.get?_push_ne _ _ _ (by rw [hsz]; exact Nat.ne_of_lt (Nat.lt_succ_of_lt hlt)), Heap.get?_update_ne _ _ _ _ (Nat.ne_of_lt hlt), Heap.get?_push_ne _ _ _ (Nat.ne_of_lt hlt)]
    exact q
  show wpAny _ _ _ _ _ { s with heap := ((s.heap.push (seqObj "list" #[] 0)).update s.heap.objs.size (Obj.mapSeq (· ++ vs.toArray))).push (seqObj "list" vs.toArray 0) }
  rw [hsz]
  have hIk : All2 (TupR (((s.heap.push (seqObj "list" #[] 0)).update s.heap.objs.size (Obj.mapSeq (· ++ vs.toArray))).push (seqObj "list" vs.toArray 0))) vs xs := hI.mono fun v x t => ItR.keeps keep t
  refine wpAny_bind (wpAny_holding (wpAny_call_entry slot_list_sort ⟨_, hoL, rfl⟩ entry_list_sort (list_sort_tups hoL hIk hne (by omega) hs fun out ro lo => ⟨_, rfl, ?_⟩) (args_list_sort _)))
  refine wpAny_pure ⟨_, rfl, ?_⟩
  generalize hH : ((s.heap.push (seqObj "list" #[] 0)).update s.heap.objs.size (Obj.mapSeq (· ++ vs.toArray))).push (seqObj "list" vs.toArray 0) = H at hoL keep ro hIk
  have hHs : H.objs.size = s.heap.objs.size + 1 + 1 := by rw [← hH, size_push', hsz]
  have newD : s.heap.get? (s.heap.objs.size + 1) = none := Heap.get?_none_of_le (Nat.le_succ _)
  have k2 : ∀ b o, b ≠ s.heap.objs.size + 1 → H.get? b = some o → (sortedHeap H (s.heap.objs.size + 1) vs (List.toArray out)).get? b = some o := fun b o hb e => by
    have hlt : b < H.objs.size := Heap.lt_size e
    unfold sortedHeap
    rw [Heap.get?_update_ne _ _ _ _ hb, Heap.get?_push_ne _ _ _ (by rw [size_push', Heap.size_update]; exact Nat.ne_of_lt (Nat.lt_succ_of_lt hlt)), Heap.get?_push_ne _ _ _ (by rw [Heap.size_update]; exact Nat.ne_of_lt hlt), Heap.get?_update_ne _ _ _ _ hb]
    exact e
  have k3 : ∀ b o, s.heap.get? b = some o → (sortedHeap H (s.heap.objs.size + 1) vs (List.toArray out)).get? b = some o := fun b o e => k2 b o (fun q => by rw [q, newD] at e; cases e) (keep b o e)
  have hD : s.heap.objs.size + 1 < H.objs.size := by rw [hHs]; exact Nat.lt_succ_self _
  obtain ⟨e2, hn⟩ : ∃ e2, (sortedHeap H (s.heap.objs.size + 1) vs (List.toArray out)).get? (s.heap.objs.size + 1) = some (seqObj "list" (List.toArray out) e2) := by
    unfold sortedHeap
    obtain ⟨e1, ho1⟩ : ∃ e1, (H.update (s.heap.objs.size + 1) (Obj.mapSeq fun _ => #[])).get? (s.heap.objs.size + 1) = some (seqObj "list" #[] e1) := ⟨_, get?_update_seq hoL (fun _ => #[])⟩
    refine ⟨_, get?_update_seq (xs := #[]) (n := e1) ?_ fun _ => List.toArray out⟩
    rw [Heap.get?_push_ne _ _ _ (by rw [size_push', Heap.size_update]; exact Nat.ne_of_lt (Nat.lt_succ_of_lt hD)), Heap.get?_push_ne _ _ _ (by rw [Heap.size_update]; exact Nat.ne_of_lt hD)]
    exact ho1
  refine q _ _ O _ s.toks h (R.keeps k3) (.of_keeps k3) ⟨_, rfl, fun hm => ?_, newD, out, ⟨e2, hn⟩, tups_to (ro.mono fun v x t => ?_)⟩
  · obtain ⟨its, o, ho, _⟩ := R.lists _ hm
    rw [newD] at ho; cases ho
  · obtain ⟨ad, us, e, ⟨o, ho, hc, n', hd⟩, r⟩ := t
    refine ⟨ad, us, e, ⟨o, k2 _ _ (fun q => ?_) ho, hc, n', hd⟩, r⟩
    rw [q, hoL] at ho; cases ho; injection hc with e; exact absurd e (by decide)
end

/-! comprehensions -/
/-- kept: all but the own lists, the frame's dict and an iterator -/
def Keep1 (L : Addr) (al : List Addr) (h h' : Heap) : Prop := ∀ b o, b ∉ al → b ≠ L → h.get? b = some o → h'.get? b = some o
theorem Keep1.refl (L : Addr) (al : List Addr) (h : Heap) : Keep1 L al h h := fun _ _ _ _ e => e
theorem Keep1.trans {L : Addr} {al : List Addr} {h₁ h₂ h₃ : Heap} (x : Keep1 L al h₁ h₂) (y : Keep1 L al h₂ h₃) : Keep1 L al h₁ h₃ := fun b o n m e => y b o n m (x b o n m e)
theorem Keep.one {L : Addr} {al : List Addr} {h h' : Heap} (k : Keep al h h') : Keep1 L al h h' := fun b o n _ e => k.get b o n e
theorem Keep1.s {env : Env} {al : List Addr} {h h' : Heap} (k : Keep1 env.locals al h h') : KeepS env al h h' := ⟨fun b o n m _ e => k b o n m e⟩

theorem store_local {M : Model} {A : Around} {B : Heap} {env : Env} {ρ ρ' : Rho} {O : Store} {al : List Addr} {s : Shared} {x : Str} {v : V} {val : Value} {Q : Unit → Shared → Prop} {E : Value → Shared → Prop} (hk : env.kindOf x = some .local)
    (R : Rel B env ρ O al s.heap) (p : Put ρ x v ρ') (hv : VH al s.heap val v) (h : ∀ h' tk, Rel B env ρ' O al h' → Keep1 env.locals al s.heap h' → Q () { s with heap := h', toks := tk }) :
    wpAny M A (storeName env x val) Q E s := by
  obtain ⟨o, hm⟩ := p.mem
  obtain ⟨mL, hnL⟩ := R.me.ns
  have hp : (env.scope.kind == .class || (env.scope.kind == .module && env.locals != env.globals)) = false := by rw [R.me.fn]; rfl
  refine wpAny_storeName_local hk hnL (fun h' hn' hs' => ?_) hp
  have apart : ∀ b o, s.heap.get? b = some o → (∃ xs n, o.data = .seq xs n) → b ≠ env.locals := fun b o e ⟨xs, n, hd⟩ q => by
    obtain ⟨o', es, ep, ho', hd', _⟩ := hnL
    rw [← q, e] at ho'; cases ho'; rw [hd] at hd'; cases hd'
  have st := own_stay (B := B) (env := env) (al := al) (O := O) hs' apart
  refine h h' _ ?_ fun b o _ hL e => sameBut_obj hs' e hL
  refine ⟨fun b o e => sameBut_obj hs' (R.base b o e) (fun q => ?_), R.old, R.own.mono fun _ _ r => st.2 r, R.nodup, ?_, fun y oy hy => ?_, by rw [p.keys]; exact R.keys⟩
  · rw [q, R.me.newL] at e; cases e
  · refine ⟨R.me.fn, R.me.gl, R.me.bi, ⟨_, hn'⟩, R.me.newL, fun y c e => ⟨(R.me.cell y c e).1, ?_⟩, R.me.inj⟩
    obtain ⟨w, hw⟩ := (R.me.cell y c e).2
    have hne := cell_ns hw hnL
    obtain ⟨oc, ho, hd⟩ := hw
    exact ⟨w, oc, sameBut_obj hs' ho hne, hd⟩
  · rcases p.of R.keys hy with ⟨rfl, rfl⟩ | ⟨hne, hy⟩
    · exact .inl ⟨hk, fun v' e => by cases e; exact ⟨_, val, hn', by simp, hv.stay st⟩⟩
    · rcases R.names y oy hy with ⟨hky, hly⟩ | ⟨hky, c, w, hc, hi, hly⟩
      · refine .inl ⟨hky, fun v' e => ?_⟩
        obtain ⟨m, vy, hny, hmy, hr⟩ := hly v' e
        refine ⟨_, vy, hn', ?_, hr.stay st⟩
        have : mL = m := by
          obtain ⟨o1, e1, p1, a1, b1, _, d1⟩ := hnL
          obtain ⟨o2, e2, p2, a2, b2, _, d2⟩ := hny
          rw [a1] at a2; cases a2; rw [b1] at b2; cases b2
          funext z; rw [← d1, ← d2]
        simp [hne, this, hmy]
      · have hnec := cell_ns hi hnL
        refine .inr ⟨hky, c, w, hc, ?_, fun v' e => ?_⟩
        · obtain ⟨oc, ho, hd⟩ := hi
          exact ⟨oc, sameBut_obj hs' ho hnec, hd⟩
        · obtain ⟨vy, e1, hr⟩ := hly v' e
          exact ⟨vy, e1, hr.stay st⟩

abbrev Bdy := Rho → Store → (Rho → Store → Prop) → Prop
inductive TgtOk (env : Env) : Expr → Rho → It → Rho → Prop
  | name {n : Str} {p : Pos} {ρ ρ' : Rho} {x : It} : env.kindOf n = some .local → Put ρ n (.it x) ρ' → TgtOk env (.Name n p) ρ x ρ'
  | tup {es : List Expr} {xs : List Str} {k : Nat} {p : Pos} {ns : List Int} {ρ ρ' : Rho} : NamesOf es xs → (∀ x ∈ xs, env.kindOf x = some .local) → ns.length = xs.length → PutAll ρ xs (ns.map V.int) ρ' → TgtOk env (.Tuple es k p) ρ (.inr ns) ρ'
def CLoop (env : Env) (target : Expr) (Bd : Bdy) (K : Rho → Store → Prop) : List It → Rho → Store → Prop
  | [], ρ, O => K ρ O
  | x :: xs, ρ, O => ∃ ρ', TgtOk env target ρ x ρ' ∧ Bd ρ' O (CLoop env target Bd K xs)
section
variable {prog : Program} {w : World} {B : Heap} {A : Around} {env : Env} {ρ : Rho} {O : Store} {mg mb : Str → Option Value}

theorem assign_locals {xs : List Str} {vs : List V} {ρ ρ' : Rho} {al : List Addr} (hp : PutAll ρ xs vs ρ') : ∀ {es : List Expr} {vals : List Value} {s : Shared} {Q : Unit → Shared → Prop} {E : Value → Shared → Prop}, NamesOf es xs → (∀ x ∈ xs, env.kindOf x = some .local) →
    Rel B env ρ O al s.heap → All2 (VH al s.heap) vals vs → (∀ h' tk, Rel B env ρ' O al h' → Keep1 env.locals al s.heap h' → Q () { s with heap := h', toks := tk }) →
    wpAny (model prog w) A (assignInOrder ((assignEach es env).map (·.2)) vals) Q E s := by
  induction hp with
  | nil =>
    intro es vals s Q E n _ R r q
    cases n; cases r
    exact wpAny_pure (q s.heap s.toks R (Keep1.refl _ _ _))
  | @cons _ _ _ x _ xs _ pu pr ih =>
    intro es vals s Q E n hk R r q
    cases n with
    | @cons _ p es _ n =>
    cases r with
    | @cons val v vals vs hv hr =>
    have e : (assignEach (.Name x p :: es) env).map (·.2) = assign (.Name x p) env :: (assignEach es env).map (·.2) := rfl
    rw [e]
    show wpAny (model prog w) A (do holding vals (assign (.Name x p) env val); assignInOrder ((assignEach es env).map (·.2)) vals) Q E s
    refine wpAny_bind (wpAny_holding (assign_Name (store_local (hk x (.head _)) R pu hv fun h' tk R' K' => ?_)))
    refine ih (s := { s with heap := h', toks := tk }) n (fun y hy => hk y (.tail _ hy)) R' (hr.mono fun a b r => r.keepS K'.s R.me R.lists) fun h₂ tk₂ R₂ K₂ => ?_
    exact q h₂ tk₂ R₂ (K'.trans K₂)

theorem letGo_plain {target : Expr} {I : Addr} {v : Value} {s : Shared} {Q : Unit → Shared → Prop} {E : Value → Shared → Prop} (hI : ∃ o c fs, s.heap.get? I = some o ∧ o.cls = .type c ∧ iterPlain c = true ∧ o.data = .fields fs) (h : Q () s) :
    wpAny (model prog w) A (letOwnedTupleGo target (.ref I) v) Q E s := by
  obtain ⟨o, c, fs, ho, hc, hp, hd⟩ := hI
  have go : ∀ a, wpAny (model prog w) A (do
      let o ← load I
      match o.cls, o.data with
      | .type n, .fields vs =>
        if ["enumerate", "zip", "dict_itemiterator", "dict_reverseitemiterator", "odict_iterator", "itertools.zip_longest", "itertools.pairwise"].contains n && vs[0]? == some (rawInt a) then
          rule "for.unpacks-the-owned-tuple"
          updateField I 0 .none
      | _, _ => pure ()) Q E s := fun a => by
    refine wpAny_bind (wpAny_load ho ?_)
    rw [hc, hd]
    have e : (["enumerate", "zip", "dict_itemiterator", "dict_reverseitemiterator", "odict_iterator", "itertools.zip_longest", "itertools.pairwise"] : List String).contains c = false := by
      unfold iterPlain at hp; simpa using hp
    dsimp only
    rw [e]
    simp only [Bool.false_and, Bool.false_eq_true, if_false]
    exact wpAny_pure h
  cases target <;> first
    | exact wpAny_pure h
    | (cases v <;> first
        | exact wpAny_pure h
        | exact go _)

theorem assign_tgt {target : Expr} {ρ' : Rho} {x : It} {al : List Addr} {s : Shared} {v : Value} {Q : Unit → Shared → Prop} {E : Value → Shared → Prop} (hh : A.handled = none) (t : TgtOk env target ρ x ρ') (R : Rel B env ρ O al s.heap) (r : ItR s.heap v x)
    (q : ∀ h' tk, Rel B env ρ' O al h' → Keep1 env.locals al s.heap h' → Q () { s with heap := h', toks := tk }) : wpAny (model prog w) A (assign target env v) Q E s := by
  cases t with
  | name hk hp => exact assign_Name (store_local hk R hp r q)
  | @tup es xs k p ns _ _ hn hk hl hp =>
    obtain ⟨a, vs, rfl, t, r⟩ := r
    obtain ⟨i1, i2⟩ := starNone (env := env) hn
    have e0 : assign (.Tuple es k p) env (.ref a) = (standAt p >>= fun _ => unpack (.ref a) (assignEach es env)) := rfl
    rw [e0]
    refine wpAny_bind (wpAny_standAt ?_)
    unfold unpack
    rw [i1, i2]
    have hz : xs.length = (List.toArray vs).size := by rw [List.size_toArray, r.length, hl]
    rw [hz]
    refine wpAny_bind (wpAny_holding (unpackItems_tuple hh t fun h' x => ?_))
    have k' : Keep al s.heap h' := ⟨fun b o hb e => x b o (Nat.ne_of_lt (Heap.lt_size e)) e⟩
    have R' : Rel B env ρ O al h' := R.keeps fun b o e => x b o (Nat.ne_of_lt (Heap.lt_size e)) e
    refine assign_locals (s := { s with heap := h' }) hp hn hk R' (ints_vh r) fun h₂ tk₂ R₂ K₂ => ?_
    exact q h₂ tk₂ R₂ (k'.one.trans K₂)

/-- what a loop's body says of the rest of a turn -/
def BdOk (prog : Program) (w : World) (B : Heap) (A : Around) (env : Env) (al : List Addr) (c : Code) (rest : Sem PySem.Fin) (Bd : Bdy) : Prop :=
  ∀ (ρ : Rho) (O : Store) (K : Rho → Store → Prop), Bd ρ O K → ∀ (s : Shared), Rel B env ρ O al s.heap → ∀ (Q : PySem.Fin → Shared → Prop) (E : Value → Shared → Prop),
    (∀ ρ' O' h' tk, K ρ' O' → Rel B env ρ' O' al h' → Keep1 env.locals al s.heap h' → wpAny (model prog w) A (again c) Q E { s with heap := h', toks := tk }) → wpAny (model prog w) A rest Q E s
/-- one loop of a comprehension -/
theorem comp_loop {elt : Expr} {gens : List Comprehension} {scope : Scope} {cpos : Pos} {d : Nat} {I : Addr} {acc : Value} {target : Expr} {ipos : Pos} {rest : Sem PySem.Fin} {Bd : Bdy} {al : List Addr} {s : Shared} {xs : List It} {K : Rho → Store → Prop} {RR : Result → Shared → Prop} (hh : A.handled = none)
    (heq : compTurn (.ListComp elt gens scope cpos) d (.ref I) acc env = (standAt ipos >>= fun _ => pyNext (.ref I) >>= fun r => match r with
      | none => pure (.done .next)
      | some v => letOwnedTupleGo target (.ref I) v >>= fun _ => assign target env v >>= fun _ => rest))
    (hbd : BdOk prog w B A env al (.compLoop (.ListComp elt gens scope cpos) d (.ref I) acc env) rest Bd)
    (R : Rel B env ρ O al s.heap) (BI : B.get? I = none) (ok : IterOk prog w A env al s.heap I xs) (h : CLoop env target Bd K xs ρ O)
    (q : ∀ ρ' O' h' tk, K ρ' O' → Rel B env ρ' O' al h' → (∀ b o, b ∉ al → b ≠ env.locals → b ≠ I → s.heap.get? b = some o → h'.get? b = some o) → RR (.ok .next) { s with heap := h', toks := tk }) :
    codeAny (model prog w) A (.compLoop (.ListComp elt gens scope cpos) d (.ref I) acc env) RR s := by
  obtain ⟨fp, P, St, W, hfp, hIf, h0, hP, hF⟩ := ok
  refine codeAny_loop rfl (fun m s' => ∃ i ρ₁ O₁ h₁ tk₁, s' = { s with heap := h₁, toks := tk₁ } ∧ m = xs.length - i ∧ i ≤ xs.length ∧ Rel B env ρ₁ O₁ al h₁ ∧ (∀ b o, b ∉ al → b ≠ env.locals → b ≠ I → s.heap.get? b = some o → h₁.get? b = some o) ∧ St i h₁ ∧
    (∀ b ∈ fp, ∃ o, h₁.get? b = some o) ∧ CLoop env target Bd K (xs.drop i) ρ₁ O₁ ∧ (∀ v x, ItR s.heap v x → ItR h₁ v x)) (fun m s' hI => ?_) xs.length ⟨0, ρ, O, s.heap, s.toks, rfl, rfl, Nat.zero_le _, R, fun _ _ _ _ _ e => e, h0, fun b hb => (hfp b hb).2, h, fun _ _ r => r⟩
  obtain ⟨i, ρ₁, O₁, h₁, tk₁, rfl, rfl, hi, R₁, K₁, st, ap, hk, hit⟩ := hI
  show wpAny _ A ((compTurn (.ListComp elt gens scope cpos) d (.ref I) acc env).onRaise (fun x => do noteFrame x env; theTreesLotGoes x)) _ _ _
  refine wpAny_noted ?_
  rw [heq]
  refine wpAny_bind (wpAny_standAt (wpAny_bind ?_))
  by_cases hlt : i < xs.length
  · refine W.item i _ _ _ hlt st fun v h₂ tk₂ hPv st₂ hk₂ => ?_
    obtain ⟨x, hx, hr⟩ := hP i v hPv
    have hdrop : xs.drop i = x :: xs.drop (i + 1) := by
      rw [List.drop_eq_getElem_cons hlt]
      congr 1
      exact Option.some.inj ((List.getElem?_eq_getElem hlt).symm.trans hx)
    rw [hdrop] at hk
    obtain ⟨ρ₂, hput, hbody⟩ := hk
    obtain ⟨oI, cI, fsI, eI, _, _, dI⟩ := hF i h₁ st
    have kI : ∀ b o, b ≠ I → h₁.get? b = some o → h₂.get? b = some o := fun b o hb e => hk₂ b o (by simpa using hb) e
    have stay : Stay h₁ h₂ := stay_of ⟨oI, fsI, eI, dI⟩ kI
    have R₂ : Rel B env ρ₁ O₁ al h₂ := R₁.stay stay fun b o e => kI b o (fun q => by rw [q, BI] at e; cases e) (R₁.base b o e)
    have hr₂ : ItR h₂ v x := stay.it (hit v x hr)
    have apI₂ : ∀ b ∈ fp, ∃ o, h₂.get? b = some o := fun b hb => by
      by_cases hbI : b = I
      · subst hbI
        obtain ⟨o, _, _, e, _⟩ := hF _ _ st₂
        exact ⟨o, e⟩
      · obtain ⟨o, e⟩ := ap b hb
        exact ⟨o, kI b o hbI e⟩
    dsimp only
    refine wpAny_bind (letGo_plain (hF _ _ st₂) (wpAny_bind (assign_tgt (s := { s with heap := h₂, toks := tk₂ }) hh hput R₂ hr₂ fun h₃ tk₃ R₃ K₃ => ?_)))
    refine hbd ρ₂ O₁ _ hbody { s with heap := h₃, toks := tk₃ } R₃ _ _ fun ρ₄ O₄ h₄ tk₄ hk₄ R₄ K₄ => ?_
    have K34 : Keep1 env.locals al h₂ h₄ := K₃.trans K₄
    refine wpAny_pure ⟨rfl, xs.length - (i + 1), by omega, i + 1, ρ₄, O₄, h₄, tk₄, rfl, rfl, hlt, R₄, fun b o hb hL hbI e => K34 b o hb hL (kI b o hbI (K₁ b o hb hL hbI e)), ?_, ?_, hk₄, ?_⟩
    · refine W.frame (i + 1) h₂ h₄ st₂ fun b hb o e => ?_
      obtain ⟨⟨a1, a2, a3⟩, _⟩ := hfp b hb
      exact K34 b o a1 a2 e
    · intro b hb
      obtain ⟨⟨a1, a2, a3⟩, _⟩ := hfp b hb
      obtain ⟨o, e⟩ := apI₂ b hb
      exact ⟨o, K34 b o a1 a2 e⟩
    · intro v' x' r
      have r2 := stay.it (hit v' x' r)
      have r3 := K₃.s.it R₂.me R₂.lists r2
      exact K₄.s.it R₃.me R₃.lists r3
  · have hin : i = xs.length := by omega
    subst hin
    refine W.done _ _ _ st fun h₂ tk₂ hk₂ => ?_
    have hd : xs.drop xs.length = [] := List.drop_eq_nil_of_le (Nat.le_refl _)
    rw [hd] at hk
    obtain ⟨oI, cI, fsI, eI, _, _, dI⟩ := hF _ h₁ st
    have kI : ∀ b o, b ≠ I → h₁.get? b = some o → h₂.get? b = some o := fun b o hb e => hk₂ b o (by simpa using hb) e
    have stay : Stay h₁ h₂ := stay_of ⟨oI, fsI, eI, dI⟩ kI
    have R₂ : Rel B env ρ₁ O₁ al h₂ := R₁.stay stay fun b o e => kI b o (fun q => by rw [q, BI] at e; cases e) (R₁.base b o e)
    exact wpAny_pure (q ρ₁ O₁ h₂ tk₂ hk R₂ fun b o hb hL hbI e => kI b o hbI (K₁ b o hb hL hbI e))
end

/-! what a comprehension closes over -/
def clStep (env : Env) (x : Str × NameKind) (cs : List (Str × Addr)) : Sem (ForInStep (List (Str × Addr))) :=
  match x with
  | (n, k) => if (k == .free) = true then do let a ← cellOf env n; pure (.yield ((n, a) :: cs)) else pure (.yield cs)
theorem closureFor_eq (scope : Scope) (env : Env) : closureFor scope env = (forIn scope.names [] (clStep env) >>= fun cs => pure cs) := rfl
theorem closure_go {env : Env} : ∀ (l : List (Str × NameKind)) (cs : List (Str × Addr)), (∀ n, (n, NameKind.free) ∈ l → ∃ c, env.cells.lookup n = some c) → (∀ p ∈ cs, env.cells.lookup p.1 = some p.2) →
    ∃ cl, forIn l cs (clStep env) = (pure cl : Sem _) ∧ (∀ p ∈ cl, env.cells.lookup p.1 = some p.2) ∧ (∀ p ∈ cs, p ∈ cl) ∧ (∀ n, (n, NameKind.free) ∈ l → ∃ c, (n, c) ∈ cl)
  | [], cs, _, h2 => ⟨cs, by rw [List.forIn_nil], h2, fun _ h => h, fun _ h => nomatch h⟩
  | (n, k) :: r, cs, h1, h2 => by
    rw [List.forIn_cons]
    by_cases hk : (k == NameKind.free) = true
    · have ek : k = .free := by simpa using hk
      obtain ⟨c, hc⟩ := h1 n (by rw [ek]; exact .head _)
      obtain ⟨cl, e, a1, a2, a3⟩ := closure_go r ((n, c) :: cs) (fun m hm => h1 m (.tail _ hm)) fun p hp => by
        rcases List.mem_cons.mp hp with rfl | hp
        · exact hc
        · exact h2 p hp
      refine ⟨cl, ?_, a1, fun p hp => a2 p (.tail _ hp), fun m hm => ?_⟩
      · have e1 : clStep env (n, k) cs = pure (.yield ((n, c) :: cs)) := by
          show (if (k == NameKind.free) = true then (cellOf env n >>= fun a => pure (ForInStep.yield ((n, a) :: cs))) else pure (ForInStep.yield cs)) = _
          rw [if_pos hk]
          unfold cellOf
          rw [hc]; rfl
        rw [e1]; exact e
      · rcases List.mem_cons.mp hm with e | hm
        · cases e; exact ⟨c, a2 _ (.head _)⟩
        · exact a3 m hm
    · obtain ⟨cl, e, a1, a2, a3⟩ := closure_go r cs (fun m hm => h1 m (.tail _ hm)) h2
      refine ⟨cl, ?_, a1, a2, fun m hm => ?_⟩
      · have e1 : clStep env (n, k) cs = pure (.yield cs) := by
          show (if (k == NameKind.free) = true then (cellOf env n >>= fun a => pure (ForInStep.yield ((n, a) :: cs))) else pure (ForInStep.yield cs)) = _
          rw [if_neg hk]
        rw [e1]; exact e
      · rcases List.mem_cons.mp hm with e | hm
        · cases e; exact absurd rfl hk
        · exact a3 m hm
theorem lookup_mem {β : Type} : ∀ {l : List (Str × β)} {x : Str} {c : β}, (x, c) ∈ l → ∃ c', l.lookup x = some c'
  | (n, d) :: r, x, c, h => by
    rw [List.lookup_cons]
    cases hx : x == n with
    | true => exact ⟨d, rfl⟩
    | false =>
      rcases List.mem_cons.mp h with e | h
      · cases e; simp at hx
      · exact lookup_mem h
theorem closure_of {scope : Scope} {env : Env} (h : ∀ n, (n, NameKind.free) ∈ scope.names → ∃ c, env.cells.lookup n = some c) :
    ∃ cl, closureFor scope env = pure cl ∧ (∀ x c, cl.lookup x = some c → env.cells.lookup x = some c) ∧ (∀ x, (x, NameKind.free) ∈ scope.names → ∃ c, cl.lookup x = some c) := by
  obtain ⟨cl, e, a1, _, a3⟩ := closure_go (env := env) scope.names [] h fun _ hp => nomatch hp
  refine ⟨cl, by rw [closureFor_eq, e]; rfl, fun x c hx => a1 _ (mem_of_lookup hx), fun x hx => ?_⟩
  obtain ⟨c, hc⟩ := a3 x hx
  exact lookup_mem hc
theorem relabel_lookup {scope : Scope} {env : Env} {x : Str} : (relabel scope env).names.lookup x = (scope.names.lookup x).map fun k => if (k == NameKind.free && env.scope.kind == .function && env.kindOf x == some .cell) then NameKind.cell else k := by
  show (scope.names.map _).lookup x = _
  generalize scope.names = l
  induction l with
  | nil => rfl
  | cons p r ih =>
    obtain ⟨n, k⟩ := p
    rw [List.map_cons]
    show List.lookup x ((if (k == NameKind.free && env.scope.kind == .function && env.kindOf n == some .cell) = true then (n, NameKind.cell) else (n, k)) :: _) = _
    cases hx : x == n with
    | true =>
      have e : x = n := by simpa using hx
      subst e
      by_cases hc : (k == NameKind.free && env.scope.kind == .function && env.kindOf x == some .cell) = true
      · rw [if_pos hc]; simp only [List.lookup_cons, hx, Option.map_some]; rw [if_pos hc]
      · rw [if_neg hc]; simp only [List.lookup_cons, hx, Option.map_some]; rw [if_neg hc]
    | false =>
      by_cases hc : (k == NameKind.free && env.scope.kind == .function && env.kindOf n == some .cell) = true
      · rw [if_pos hc]; simp only [List.lookup_cons, hx]; exact ih
      · rw [if_neg hc]; simp only [List.lookup_cons, hx]; exact ih
/-- the kind of a name within the comprehension -/
theorem kind_comp {scope : Scope} {env : Env} {cl : List (Str × Addr)} {C : Addr} {x : Str} {k : NameKind} (h : scope.names.lookup x = some k) (hk : k ≠ .free) : (compEnvC scope cl C env).kindOf x = some k := by
  show (relabel scope env).names.lookup x = _
  rw [relabel_lookup, h]
  cases k <;> first | rfl | exact absurd rfl hk
theorem kind_comp_cell {scope : Scope} {env : Env} {cl : List (Str × Addr)} {C : Addr} {x : Str} (h : scope.names.lookup x = some .free) (hf : env.scope.kind = .function) (hk : env.kindOf x = some .cell) : (compEnvC scope cl C env).kindOf x = some .cell := by
  show (relabel scope env).names.lookup x = _
  rw [relabel_lookup, h]
  simp [hf, hk]

def compOk (scope : Scope) (ts cs : List Str) : Bool :=
  decide (scope.kind = .function) && scope.names.all (fun p => decide (p.2 ≠ .cell) && (decide (p.2 ≠ .local) || decide (scope.names.lookup p.1 = some .local)) && (decide (p.2 ≠ .free) || decide (p.1 ∈ cs))) &&
    ts.all (fun x => decide (scope.names.lookup x = some .local)) && cs.all (fun x => decide (scope.names.lookup x = some .free)) && decide ((ts ++ cs).Nodup)
def rhoC (ts : List Str) (cs : List (Str × V)) : Rho := ts.map (fun x => (x, none)) ++ cs.map fun p => (p.1, some p.2)
theorem VH.adopt' {al : List Addr} {h h0 : Heap} {a : Addr} (hn : h0.get? a = none) (k : ∀ b o, h0.get? b = some o → h.get? b = some o) {v : Value} : ∀ {x : V}, VH al h0 v x → VH (al ++ [a]) h v x
  | .none, r => r
  | .bool _, r => r
  | .it _, r => r.keeps k
  | .lst _, ⟨b, e, hb, ⟨vs, ⟨n, ho⟩, rs⟩⟩ => ⟨b, e, (fun hm => by
      rcases List.mem_append.mp hm with hm | hm
      · exact hb hm
      · rw [List.mem_singleton.mp hm, hn] at ho; cases ho), vs, ⟨n, k _ _ ho⟩, rs.mono fun _ _ t => t.keeps k⟩
  | .own j, ⟨b, hb, e⟩ => ⟨b, by
      have hk : j < al.length := (List.getElem?_eq_some_iff.mp hb).1
      rw [List.getElem?_append_left hk]; exact hb, e⟩

section
variable {prog : Program} {w : World} {B : Heap} {A : Around} {env : Env} {ρ : Rho} {O O0 : Store} {mg mb : Str → Option Value}

theorem comp_core {elt : Expr} {target iter : Expr} {ifs : List Expr} {more : List Comprehension} {scope : Scope} {cpos : Pos} {ts : List Str} {cs : List (Str × V)} {h0 : Heap} {I : Addr} {xs : List It} {al : List Addr} {s : Shared} {cl : List (Str × Addr)}
    {K : List It → Store → Prop} {E : Value → Shared → Prop} {RR : Value → Addr → Result → Shared → Prop} {Bd : Addr → Addr → Bdy} (hh : A.handled = none)
    (hsc : compOk scope ts (cs.map (·.1)) = true) (hcs : ∀ p ∈ cs, (p.1, some p.2) ∈ ρ ∧ env.kindOf p.1 = some .cell)
    (hcl1 : ∀ x c, cl.lookup x = some c → env.cells.lookup x = some c) (hcl2 : ∀ x, (x, NameKind.free) ∈ scope.names → ∃ c, cl.lookup x = some c)
    (R0 : Rel B env ρ O0 al h0) (R : Rel B env ρ O al s.heap) (K0 : Keep al h0 s.heap) (hI : h0.get? I = none) (ok : IterOk prog w A env al s.heap I xs)
    (hfit : ∀ C D, (al ++ [D])[O.length]? = some D → ∃ rest, compTurn (.ListComp elt (⟨target, iter, ifs, 0⟩ :: more) scope cpos) 0 (.ref I) (.ref D) (compEnvC scope cl C env) = (standAt iter.pos >>= fun _ => pyNext (.ref I) >>= fun r => match r with
      | none => pure (.done .next)
      | some v => letOwnedTupleGo target (.ref I) v >>= fun _ => assign target (compEnvC scope cl C env) v >>= fun _ => rest) ∧
      BdOk prog w B A (compEnvC scope cl C env) (al ++ [D]) (.compLoop (.ListComp elt (⟨target, iter, ifs, 0⟩ :: more) scope cpos) 0 (.ref I) (.ref D) (compEnvC scope cl C env)) rest (Bd C D))
    (h : ∀ C D, CLoop (compEnvC scope cl C env) target (Bd C D) (fun _ O' => K (O'.getD O.length []) (O'.take O.length)) xs (rhoC ts cs) (O ++ [[]]))
    (hRR : ∀ D C ys O' h' tk m, K ys O' → Rel B env ρ O' al h' → Keep al h0 h' → h0.get? D = none → h0.get? C = none → C ≠ D → C ∉ al → D ∉ al → LstAt h' D ys → h'.Ns C m → RR (.ref D) C (.ok .next) { s with heap := h', toks := tk }) :
    wpAny (model prog w) A (newList []) (fun acc s₃ => wpAny (model prog w) A (newFunctionEnv scope env.globals cl [] env.qual none .none (some env)) (fun cenv s₄ =>
      codeAny (model prog w) A (.compStart (.ListComp elt (⟨target, iter, ifs, 0⟩ :: more) scope cpos) 0 (.ref I) acc { cenv with scope := relabel scope env }) (RR acc cenv.locals) s₄) E s₃) E s := by
  unfold compOk at hsc
  simp only [Bool.and_eq_true, List.all_eq_true, decide_eq_true_eq, Bool.or_eq_true] at hsc
  obtain ⟨⟨⟨⟨c1, c2⟩, c3⟩, c4⟩, c5⟩ := hsc
  refine wpAny_newObj_type (wpAny_newFunctionEnv (fun x hx => (c2 x hx).1.1) (by intro y hy; simp at hy) (fun h₁ hns₁ hsb₁ => ?_) c1)
  dsimp only at hns₁ hsb₁ ⊢
  generalize hH2 : s.heap.push { cls := .type "list", dict := none, data := .seq ([] : List Value).toArray } = H2 at hns₁ hsb₁ ⊢
  have hC : H2.objs.size = s.heap.objs.size + 1 := by rw [← hH2, Heap.size_push]
  have hDC : s.heap.objs.size ≠ H2.objs.size := by rw [hC]; exact Nat.ne_of_lt (Nat.lt_succ_self _)
  have old : ∀ b o, s.heap.get? b = some o → h₁.get? b = some o := fun b o e => hsb₁.extBut b o (by rw [hC]; exact Nat.ne_of_lt (Nat.lt_succ_of_lt (Heap.lt_size e))) (Heap.get?_push_of_some _ (hH2 ▸ Heap.get?_push_of_some _ e))
  have hacc : h₁.PlainList s.heap.objs.size #[] := ⟨_, hsb₁.extBut _ _ hDC (Heap.get?_push_of_some _ (hH2 ▸ Heap.get?_push_size _ rfl))⟩
  have noneS : ∀ a, s.heap.objs.size ≤ a → s.heap.get? a = none := fun a ha => Heap.get?_none_of_le ha
  generalize hD : s.heap.objs.size = D at hDC hacc noneS hC
  generalize hCC : H2.objs.size = C at hns₁ hsb₁ hDC hC ⊢
  have sD : s.heap.get? D = none := noneS D (Nat.le_refl _)
  have sC : s.heap.get? C = none := noneS C (by rw [hC]; exact Nat.le_succ _)
  have notAl : ∀ a, s.heap.get? a = none → a ∉ al := fun a ha hm => by
    obtain ⟨its, o, ho, _⟩ := R.lists a hm
    rw [ha] at ho; cases ho
  have h0none : ∀ a, s.heap.get? a = none → h0.get? a = none := fun a ha => by
    cases e : h0.get? a with
    | none => rfl
    | some o => rw [K0.get a o (notAl a ha) e] at ha; cases ha
  have Bnone : ∀ a, s.heap.get? a = none → B.get? a = none := fun a ha => by
    cases e : B.get? a with
    | none => rfl
    | some o => rw [R.base a o e] at ha; cases ha
  have BI : B.get? I = none := by
    cases e : B.get? I with
    | none => rfl
    | some o => rw [R0.base I o e] at hI; cases hI
  have hlen : al.length = O.length := R.own.length
  have atD : (al ++ [D])[O.length]? = some D := by rw [← hlen]; simp
  -- the frame of the comprehension
  have me : Own B (compEnvC scope cl C env) h₁ := by
    refine ⟨c1, R.me.gl, R.me.bi, ⟨_, hns₁⟩, Bnone C sC, fun x c e => ?_, fun x y c e1 e2 => R.me.inj x y c (hcl1 x c e1) (hcl1 y c e2)⟩
    obtain ⟨b1, w', o, ho, hd⟩ := R.me.cell x c (hcl1 x c e)
    exact ⟨b1, w', o, old _ _ ho, hd⟩
  have R1 : Rel B (compEnvC scope cl C env) (rhoC ts cs) (O ++ [[]]) (al ++ [D]) h₁ := by
    refine ⟨fun b o e => old b o (R.base b o e), fun a ha => ?_, (R.own.mono fun a ys l => ?_).append (.cons ⟨[], hacc, .nil⟩ .nil), ?_, me, fun y oy hy => ?_, ?_⟩
    · rcases List.mem_append.mp ha with ha | ha
      · exact R.old a ha
      · rw [List.mem_singleton.mp ha]; exact Bnone D sD
    · obtain ⟨ws, ⟨n', e⟩, rs⟩ := l
      exact ⟨ws, ⟨n', old _ _ e⟩, rs.mono fun _ _ t => t.keeps old⟩
    · exact List.nodup_append.mpr ⟨R.nodup, by simp, fun b hb c hc e => notAl D sD (by rw [← List.mem_singleton.mp hc, ← e]; exact hb)⟩
    · unfold rhoC at hy
      rcases List.mem_append.mp hy with hy | hy
      · obtain ⟨t, ht, e⟩ := List.mem_map.mp hy
        cases e
        exact .inl ⟨kind_comp (c3 _ ht) (by decide), fun v e => by cases e⟩
      · obtain ⟨p, hp, e⟩ := List.mem_map.mp hy
        cases e
        obtain ⟨hρ, hkc⟩ := hcs p hp
        have hfr := c4 p.1 (List.mem_map.mpr ⟨p, hp, rfl⟩)
        rcases R.names _ _ hρ with ⟨hk, _⟩ | ⟨hk, c, w', hc, hi, hl⟩
        · rw [hkc] at hk; cases hk
        · obtain ⟨c', hc'⟩ := hcl2 p.1 (mem_of_lookup hfr)
          have := hcl1 _ _ hc'
          rw [hc] at this; cases this
          refine .inr ⟨kind_comp_cell hfr R.me.fn hkc, c, w', hc', ?_, fun v e => ?_⟩
          · obtain ⟨o, ho, hd⟩ := hi
            exact ⟨o, old _ _ ho, hd⟩
          · obtain ⟨val, e1, r⟩ := hl v e
            exact ⟨val, e1, r.adopt' sD old⟩
    · unfold rhoC
      rw [List.map_append, List.map_map, List.map_map]
      have e1 : ts.map ((fun x : Str × Option V => x.1) ∘ fun x => (x, none)) = ts := by
        rw [show ((fun x : Str × Option V => x.1) ∘ fun x : Str => (x, (none : Option V))) = id from rfl, List.map_id]
      have e2 : cs.map ((fun x : Str × Option V => x.1) ∘ fun p => (p.1, some p.2)) = cs.map (·.1) := rfl
      rw [e1, e2]; exact c5
  have ok1 : IterOk prog w A (compEnvC scope cl C env) (al ++ [D]) h₁ I xs := by
    obtain ⟨fp, P, St, W, hfp, hIf, hst, hP, hF⟩ := ok
    refine ⟨fp, P, St, W, fun b hb => ?_, hIf, W.frame _ _ _ hst fun b _ o e => old b o e, fun i v hv => ?_, hF⟩
    · obtain ⟨⟨a1, a2, a3⟩, o, e⟩ := hfp b hb
      refine ⟨⟨fun hm => ?_, fun q => ?_, fun x q => a3 x (hcl1 x b q)⟩, o, old b o e⟩
      · rcases List.mem_append.mp hm with hm | hm
        · exact a1 hm
        · rw [List.mem_singleton.mp hm, sD] at e; cases e
      · have q' : b = C := q
        rw [q', sC] at e; cases e
    · obtain ⟨x, hx, r⟩ := hP i v hv
      exact ⟨x, hx, r.keeps old⟩
  have loop : ∀ s₃ : Shared, s₃ = { s with heap := h₁, toks := s.toks + ([] : List (Str × Value)).length } →
      codeAny (model prog w) A (.compLoop (.ListComp elt (⟨target, iter, ifs, 0⟩ :: more) scope cpos) 0 (.ref I) (.ref D) (compEnvC scope cl C env)) (RR (.ref D) C) s₃ := by
    rintro s₃ rfl
    obtain ⟨rest, heq, hbd⟩ := hfit C D atD
    refine comp_loop (s := { s with heap := h₁, toks := s.toks + ([] : List (Str × Value)).length }) hh heq hbd R1 BI ok1 (h C D) fun ρ' O' h' tk hk R' K' => ?_
    have hO' : O'.length = O.length + 1 := by rw [← R'.own.length, List.length_append, hlen]; rfl
    have k0 : Keep al h0 h' := ⟨fun b o hb e => by
      have e1 := K0.get b o hb e
      refine K' b o (fun hm => ?_) (fun q => ?_) (fun q => ?_) (old b o e1)
      · rcases List.mem_append.mp hm with hm | hm
        · exact hb hm
        · rw [List.mem_singleton.mp hm, sD] at e1; cases e1
      · have q' : b = C := q
        rw [q', sC] at e1; cases e1
      · rw [q, hI] at e; cases e⟩
    have own1 : All2 (LstAt h') al (O'.take O.length) := by
      have := R'.own.take O.length
      rwa [← hlen, List.take_left, hlen] at this
    obtain ⟨ys, hys, ly⟩ := R'.own.getL (k := O.length) (a := D) atD
    have hg : O'.getD O.length [] = ys := by simp [List.getD, hys]
    obtain ⟨m, hm⟩ := R'.me.ns
    rw [hg] at hk
    exact hRR D C ys _ h' tk m hk (R0.keep k0 own1) k0 (h0none D sD) (h0none C sC) (Ne.symm hDC) (notAl C sC) (notAl D sD) ly hm
  obtain ⟨fp, P, St, W, hfp, hIf, hst, hP, hF⟩ := ok1
  exact codeAny_compStart_list (loop _ rfl) (W.self 0 _ _ _ hst (loop _ rfl))
end

/-- a comprehension's loop and what its body asks -/
def CompFits (prog : Program) (w : World) (B : Heap) (A : Around) (elt target iter : Expr) (ifs : List Expr) (more : List Comprehension) (scope : Scope) (cpos : Pos) (Bd : Env → Nat → Bdy) : Prop :=
  ∀ (env : Env) (al : List Addr) (I D : Addr) (k : Nat), al[k]? = some D → ∃ rest, compTurn (.ListComp elt (⟨target, iter, ifs, 0⟩ :: more) scope cpos) 0 (.ref I) (.ref D) env = (standAt iter.pos >>= fun _ => pyNext (.ref I) >>= fun r => match r with
      | none => pure (.done .next)
      | some v => letOwnedTupleGo target (.ref I) v >>= fun _ => assign target env v >>= fun _ => rest) ∧
    BdOk prog w B A env al (.compLoop (.ListComp elt (⟨target, iter, ifs, 0⟩ :: more) scope cpos) 0 (.ref I) (.ref D) env) rest (Bd env k)
section
variable (prog : Program) (w : World) (B : Heap) (A : Around)
def Bd0 (elt : Expr) (env : Env) (k : Nat) : Bdy := fun ρ O K => WE prog w B A env elt ρ O (fun v O₂ => ∃ y acc, v = .it y ∧ O₂[k]? = some acc ∧ acc.length ≤ 1000000 ∧ K ρ (O₂.set k (acc ++ [y])))
def Bd1 (c elt : Expr) (env : Env) (k : Nat) : Bdy := fun ρ O K => WT prog w B A env c ρ O (fun b O₁ => (b = true → Bd0 prog w B A elt env k ρ O₁ K) ∧ (b = false → K ρ O₁))
def Bd2 (iter target elt : Expr) (env : Env) (k : Nat) : Bdy := fun ρ O K => WI prog w B A env iter ρ O (fun xs O₁ => CLoop env target (Bd0 prog w B A elt env k) K xs ρ O₁)
end
section
variable {prog : Program} {w : World} {B : Heap} {A : Around} {env : Env} {ρ : Rho} {O O0 : Store} {mg mb : Str → Option Value}
theorem emit_ok {elt : Expr} {al : List Addr} {D : Addr} {k : Nat} (hD : al[k]? = some D) {K : Rho → Store → Prop} (h : Bd0 prog w B A elt env k ρ O K) {s : Shared} (R : Rel B env ρ O al s.heap) {Q : Unit → Shared → Prop} {E : Value → Shared → Prop}
    (q : ∀ ρ' O' h' tk, K ρ' O' → Rel B env ρ' O' al h' → Keep al s.heap h' → Q () { s with heap := h', toks := tk }) :
    wpAny (model prog w) A (eval elt env >>= fun x => call (.builtin "list.append") [.ref D, x] >>= fun _ => pure ()) Q E s := by
  refine wpAny_bind (h al s R _ _ fun v val O₂ h₂ tk₂ hk R₂ K₂ r₂ => wpAny_bind ?_)
  obtain ⟨y, acc, rfl, ho, hz, hk⟩ := hk
  obtain ⟨a', ha', vs', hp, hr⟩ := R₂.list ho
  rw [hD] at ha'; cases ha'
  refine wpAny_list_append_plain (s := { s with heap := h₂, toks := tk₂ }) hp (fun h₃ hp₃ hs₃ => wpAny_pure ?_) (by rw [List.size_toArray, hr.length, sizeLine_eq]; omega)
  have kp : Keep al h₂ h₃ := .sameBut hs₃ (List.mem_of_getElem? hD)
  have ln : LstAt h₃ D (acc ++ [y]) := ⟨vs' ++ [val], by rw [show List.toArray (vs' ++ [val]) = (List.toArray vs').push val by simp]; exact hp₃, (ItsR.keep R₂.lists kp hr).append (.cons (ItR.keep R₂.lists kp r₂) .nil)⟩
  obtain ⟨R₃, _⟩ := R₂.turn hD hs₃ ln
  exact q ρ _ h₃ tk₂ hk R₃ (K₂.trans kp)
theorem fits0 {elt target iter : Expr} {scope : Scope} {cpos : Pos} : CompFits prog w B A elt target iter [] [] scope cpos (Bd0 prog w B A elt) := fun env al I D k hD => by
  refine ⟨_, compTurn_list1 elt target iter scope cpos (.ref I) (.ref D) env, fun ρ O K hk s R Q E q => ?_⟩
  exact wpAny_bind (emit_ok hD hk R fun ρ' O' h' tk a b c => q ρ' O' h' tk a b c.one)
theorem fits1 {elt target iter c : Expr} {scope : Scope} {cpos : Pos} : CompFits prog w B A elt target iter [c] [] scope cpos (Bd1 prog w B A c elt) := fun env al I D k hD => by
  refine ⟨_, compTurn_list elt target iter [c] scope cpos (.ref I) (.ref D) env, fun ρ O K hk s R Q E q => ?_⟩
  dsimp only
  refine wpAny_bind (wpAny_tests_one (hk al s R _ _ fun b O₁ h₁ tk₁ hb R₁ K₁ => ?_))
  cases b with
  | true =>
    simp only [if_true]
    refine wpAny_bind (wpAny_mono (emit_ok hD (hb.1 rfl) (s := { s with heap := h₁, toks := tk₁ }) R₁ (E := E) (Q := fun _ s' => wpAny (model prog w) A (again (.compLoop (.ListComp elt [⟨target, iter, [c], 0⟩] scope cpos) 0 (.ref I) (.ref D) env)) Q E s') fun ρ' O' h' tk a b c => q ρ' O' h' tk a b (K₁.trans c).one) (fun _ _ z => z) fun _ _ z => z)
  | false =>
    simp only [Bool.false_eq_true, if_false]
    exact q ρ O₁ h₁ tk₁ (hb.2 rfl) R₁ K₁.one
theorem compTurn_two0 (elt t1 i1 t2 i2 : Expr) (scope : Scope) (pos : Pos) (it acc : Value) (env : Env) :
    compTurn (.ListComp elt [⟨t1, i1, [], 0⟩, ⟨t2, i2, [], 0⟩] scope pos) 0 it acc env = (standAt i1.pos >>= fun _ => pyNext it >>= fun r => match r with
      | none => pure (.done .next)
      | some v => letOwnedTupleGo t1 it v >>= fun _ => assign t1 env v >>= fun _ =>
        (eval i2 env >>= fun x => standAt i2.pos >>= fun _ => foldedSetIterable i2 env x >>= fun x => holding [x] (pyIter x) >>= fun it2 => runOwn (.compStart (.ListComp elt [⟨t1, i1, [], 0⟩, ⟨t2, i2, [], 0⟩] scope pos) 1 it2 acc env) env >>= fun _ =>
          again (.compLoop (.ListComp elt [⟨t1, i1, [], 0⟩, ⟨t2, i2, [], 0⟩] scope pos) 0 it acc env))) := by rfl
theorem compTurn_two1 (elt t1 i1 t2 i2 : Expr) (scope : Scope) (pos : Pos) (it acc : Value) (env : Env) :
    compTurn (.ListComp elt [⟨t1, i1, [], 0⟩, ⟨t2, i2, [], 0⟩] scope pos) 1 it acc env = (standAt i2.pos >>= fun _ => pyNext it >>= fun r => match r with
      | none => pure (.done .next)
      | some v => letOwnedTupleGo t2 it v >>= fun _ => assign t2 env v >>= fun _ =>
        ((eval elt env >>= fun x => call (.builtin "list.append") [acc, x] >>= fun _ => pure ()) >>= fun _ =>
          again (.compLoop (.ListComp elt [⟨t1, i1, [], 0⟩, ⟨t2, i2, [], 0⟩] scope pos) 1 it acc env))) := by rfl
theorem compStart_1 {elt t1 i1 t2 i2 : Expr} {scope : Scope} {pos : Pos} {it acc : Value} {RR : Result → Shared → Prop} {s : Shared}
    (h0 : codeAny (model prog w) A (.compLoop (.ListComp elt [⟨t1, i1, [], 0⟩, ⟨t2, i2, [], 0⟩] scope pos) 1 it acc env) RR s)
    (h : wpAny (model prog w) A (pyIter it) (fun it' s' => codeAny (model prog w) A (.compLoop (.ListComp elt [⟨t1, i1, [], 0⟩, ⟨t2, i2, [], 0⟩] scope pos) 1 it' acc env) RR s')
      (notedBy (model prog w) A env fun x s' => RR (.error x) s') s) :
    codeAny (model prog w) A (.compStart (.ListComp elt [⟨t1, i1, [], 0⟩, ⟨t2, i2, [], 0⟩] scope pos) 1 it acc env) RR s := by
  refine codeAny_of_tree ?_
  show wpAny _ _ ((compStart (.ListComp elt [⟨t1, i1, [], 0⟩, ⟨t2, i2, [], 0⟩] scope pos) 1 it acc env).onRaise (fun x => do noteFrame x env; standAt theWindowsPlace)) _ _ s
  refine wpAny_notedAt ?_
  unfold compStart
  show wpAny _ _ (ask >>= _) _ _ s
  refine wpAny_bind (wpAny_askSetting (wpAny_ite ?_))
  split
  · first
      | exact wpAny_bind (wpAny_pure (wpAny_pure (And.intro rfl h0)))
      | exact wpAny_pure (And.intro rfl h0)
  · first
      | exact wpAny_bind (wpAny_rule (wpAny_bind (wpAny_standAt (wpAny_bind (wpAny_mono h (fun it' s' h' => wpAny_pure (And.intro rfl h')) fun _ _ x => x)))))
      | (refine wpAny_bind (wpAny_rule ?_); show wpAny _ _ (standAt i2.pos >>= _) _ _ s; exact wpAny_bind (wpAny_standAt (wpAny_bind (wpAny_mono h (fun it' s' h' => wpAny_pure (And.intro rfl h')) fun _ _ x => x))))

theorem fits2 {elt t1 i1 t2 i2 : Expr} {scope : Scope} {cpos : Pos} (hh : A.handled = none) (hs : ∀ env x, foldedSetIterable i2 env x = pure x := by intro _ _; rfl) : CompFits prog w B A elt t1 i1 [] [⟨t2, i2, [], 0⟩] scope cpos (Bd2 prog w B A i2 t2 elt) := fun env al I D k hD => by
  refine ⟨_, compTurn_two0 elt t1 i1 t2 i2 scope cpos (.ref I) (.ref D) env, fun ρ O K hk s R Q E q => ?_⟩
  refine wpAny_bind (wpAny_mono (hk al s R (fun it2 s2 => wpAny (model prog w) A (runOwn (.compStart (.ListComp elt [⟨t1, i1, [], 0⟩, ⟨t2, i2, [], 0⟩] scope cpos) 1 it2 (.ref D) env) env >>= fun _ => again (.compLoop (.ListComp elt [⟨t1, i1, [], 0⟩, ⟨t2, i2, [], 0⟩] scope cpos) 0 (.ref I) (.ref D) env)) Q E s2) E fun xs O₁ h₁ tk₁ J hx R₁ K₁ hJ ok => ?_) (fun x s₁ h₁ => ?_) fun _ _ z => z)
  · refine wpAny_bind (wpAny_runOwn ?_)
    have BJ : B.get? J = none := by
      cases e : B.get? J with
      | none => rfl
      | some o => rw [R.base J o e] at hJ; cases hJ
    have loop : codeAny (model prog w) (A.mark none) (.compLoop (.ListComp elt [⟨t1, i1, [], 0⟩, ⟨t2, i2, [], 0⟩] scope cpos) 1 (.ref J) (.ref D) env) (fun r s' => match r with
        | .ok f => wpAny (model prog w) A (again (.compLoop (.ListComp elt [⟨t1, i1, [], 0⟩, ⟨t2, i2, [], 0⟩] scope cpos) 0 (.ref I) (.ref D) env)) Q E s'
        | .error e => cameBackBy (model prog w) A env E e s') { s with heap := h₁, toks := tk₁ } := by
      refine comp_loop (A := A) (s := { s with heap := h₁, toks := tk₁ }) hh (compTurn_two1 elt t1 i1 t2 i2 scope cpos (.ref J) (.ref D) env) (Bd := Bd0 prog w B A elt env k) (fun ρ O K hk s R Q E q => wpAny_bind (emit_ok hD hk R fun ρ' O' h' tk a b c => q ρ' O' h' tk a b c.one)) R₁ BJ ok hx fun ρ' O' h' tk hk' R' K' => ?_
      exact q ρ' O' h' tk hk' R' fun b o hb hL e => K' b o hb hL (fun z => by rw [z, hJ] at e; cases e) (K₁.get b o hb e)
    obtain ⟨fp, P, St, W, hfp, hIf, hst, hP, hF⟩ := ok
    exact compStart_1 (A := A.mark none) loop (W.self 0 _ _ _ hst loop)
  · refine wpAny_bind (wpAny_standAt (wpAny_bind (wpAny_of_eq (hs env x) (wpAny_bind (wpAny_holding h₁)))))
end

section
variable {prog : Program} {w : World} {B : Heap} {A : Around} {env : Env} {ρ : Rho} {O O0 : Store} {mg mb : Str → Option Value}

/-- the comprehension's dict is let go of: the rest stays -/
theorem Rel.dropC {al : List Addr} {h h' : Heap} {C : Addr} {m : Str → Option Value} (R : Rel B env ρ O al h) (hs : Heap.SameBut C h h') (hn : h.Ns C m) (hBC : B.get? C = none) (hL : C ≠ env.locals) (hc : ∀ x, env.cells.lookup x ≠ some C) : Rel B env ρ O al h' := by
  have apart : ∀ b o, h.get? b = some o → (∃ xs n, o.data = .seq xs n) → b ≠ C := fun b o e ⟨xs, n, hd⟩ q => by
    obtain ⟨o', es, ep, ho', hd', _⟩ := hn
    rw [← q, e] at ho'; cases ho'; rw [hd] at hd'; cases hd'
  have st := own_stay (B := B) (env := env) (al := al) (O := O) hs apart
  refine ⟨fun b o e => sameBut_obj hs (R.base b o e) (fun q => by rw [q, hBC] at e; cases e), R.old, R.own.mono fun _ _ r => st.2 r, R.nodup, ?_, fun y oy hy => ?_, R.keys⟩
  · obtain ⟨m', hm'⟩ := R.me.ns
    refine ⟨R.me.fn, R.me.gl, R.me.bi, ⟨m', hm'.sameBut hs (Ne.symm hL)⟩, R.me.newL, fun x c e => ⟨(R.me.cell x c e).1, ?_⟩, R.me.inj⟩
    obtain ⟨w', o, ho, hd⟩ := (R.me.cell x c e).2
    exact ⟨w', o, sameBut_obj hs ho (fun q => hc x (q ▸ e)), hd⟩
  · rcases R.names y oy hy with ⟨hk, hl⟩ | ⟨hk, c, w', e, hi, hl⟩
    · refine .inl ⟨hk, fun v hv => ?_⟩
      obtain ⟨m', val, hm', hv', r⟩ := hl v hv
      exact ⟨m', val, hm'.sameBut hs (Ne.symm hL), hv', r.stay st⟩
    · obtain ⟨o, ho, hd⟩ := hi
      refine .inr ⟨hk, c, w', e, ⟨o, sameBut_obj hs ho (fun q => hc y (q ▸ e)), hd⟩, fun v hv => ?_⟩
      obtain ⟨val, e1, r⟩ := hl v hv
      exact ⟨val, e1, r.stay st⟩
theorem lstAt_dropC {al : List Addr} {h h' : Heap} {C D : Addr} {ys : List It} {m : Str → Option Value} (hs : Heap.SameBut C h h') (hn : h.Ns C m) (l : LstAt h D ys) : LstAt h' D ys := by
  have apart : ∀ b o, h.get? b = some o → (∃ xs n, o.data = .seq xs n) → b ≠ C := fun b o e ⟨xs, n, hd⟩ q => by
    obtain ⟨o', es, ep, ho', hd', _⟩ := hn
    rw [← q, e] at ho'; cases ho'; rw [hd] at hd'; cases hd'
  exact (own_stay (B := h) (env := default) (al := al) (O := []) hs apart).2 l

def CompK (env : Env) (scope : Scope) (target : Expr) (Bd : Env → Nat → Bdy) (ts : List Str) (cs : List (Str × V)) (K : List It → Store → Prop) (xs : List It) (O : Store) : Prop :=
  ∀ C cl, CLoop (compEnvC scope cl C env) target (Bd (compEnvC scope cl C env) O.length) (fun _ O' => K (O'.getD O.length []) (O'.take O.length)) xs (rhoC ts cs) (O ++ [[]])

theorem comp_free {scope : Scope} {ts : List Str} {cs : List (Str × V)} {al : List Addr} {h : Heap} (hsc : compOk scope ts (cs.map (·.1)) = true) (hcs : ∀ p ∈ cs, (p.1, some p.2) ∈ ρ ∧ env.kindOf p.1 = some .cell) (R : Rel B env ρ O al h) :
    ∃ cl, closureFor scope env = pure cl ∧ (∀ x c, cl.lookup x = some c → env.cells.lookup x = some c) ∧ (∀ x, (x, NameKind.free) ∈ scope.names → ∃ c, cl.lookup x = some c) := by
  unfold compOk at hsc
  simp only [Bool.and_eq_true, List.all_eq_true, decide_eq_true_eq, Bool.or_eq_true] at hsc
  obtain ⟨⟨⟨⟨c1, c2⟩, c3⟩, c4⟩, c5⟩ := hsc
  refine closure_of fun n hn => ?_
  have := (c2 _ hn).2
  rcases this with h | h
  · exact absurd rfl h
  · obtain ⟨p, hp, e⟩ := List.mem_map.mp h
    obtain ⟨hρ, hk⟩ := hcs p hp
    have e' : p.1 = n := e
    subst e'
    rcases R.names _ _ hρ with ⟨hk', _⟩ | ⟨_, c, w', hc, _⟩
    · rw [hk] at hk'; cases hk'
    · exact ⟨c, hc⟩
theorem compOk_kind {scope : Scope} {ts cs : List Str} (hsc : compOk scope ts cs = true) : scope.kind = .function ∧ ∀ x ∈ scope.names, x.2 = .local → scope.names.lookup x.1 = some .local := by
  unfold compOk at hsc
  simp only [Bool.and_eq_true, List.all_eq_true, decide_eq_true_eq, Bool.or_eq_true] at hsc
  obtain ⟨⟨⟨⟨c1, c2⟩, c3⟩, c4⟩, c5⟩ := hsc
  refine ⟨c1, fun x hx hl => ?_⟩
  rcases (c2 x hx).1.2 with h | h
  · exact absurd hl h
  · exact h

theorem WE_comp {elt target iter : Expr} {ifs : List Expr} {more : List Comprehension} {scope : Scope} {cpos : Pos} {Bd : Env → Nat → Bdy} {K : V → Store → Prop} (ts : List Str) (cs : List (Str × V)) (hh : A.handled = none)
    (fit : CompFits prog w B A elt target iter ifs more scope cpos Bd) (hsc : compOk scope ts (cs.map (·.1)) = true) (hcs : ∀ p ∈ cs, (p.1, some p.2) ∈ ρ ∧ env.kindOf p.1 = some .cell)
    (h : WI prog w B A env iter ρ O (fun xs O₁ => CompK env scope target Bd ts cs (fun ys O₂ => K (.fresh ys) O₂) xs O₁))
    (hs : ∀ x, foldedSetIterable iter env x = pure x := by intro _; rfl) :
    WE prog w B A env (.ListComp elt (⟨target, iter, ifs, 0⟩ :: more) scope cpos) ρ O K := fun al s R Q E q => by
  show wpAny (model prog w) A (eval (.ListComp elt (⟨target, iter, ifs, 0⟩ :: more) scope cpos) env) Q E s
  rw [eval_ListComp]
  obtain ⟨k1, k2⟩ := compOk_kind hsc
  obtain ⟨cl, hcl, hcl1, hcl2⟩ := comp_free hsc hcs R
  refine wpAny_comprehension_free (use := none) rfl hs hcl k1 k2 ?_
  refine wpAny_mono (h al s R (fun it s₂ => wpAny (model prog w) A (newList []) (fun acc s₃ => wpAny (model prog w) A (newFunctionEnv scope env.globals cl [] env.qual none .none (some env)) (fun cenv s₄ =>
      codeAny (model prog w) A (.compStart (.ListComp elt (⟨target, iter, ifs, 0⟩ :: more) scope cpos) 0 it acc { cenv with scope := relabel scope env }) (compPost (model prog w) A E none Q acc cenv.locals) s₄) E s₃) E s₂) E fun xs O₁ h₁ tk₁ I hx R₁ K₁ hI ok => ?_) (fun x s₁ h₁ => h₁) fun _ _ z => z
  refine comp_core (s := { s with heap := h₁, toks := tk₁ }) (RR := fun acc C => compPost (model prog w) A E none Q acc C) (K := fun ys O₂ => K (.fresh ys) O₂) (Bd := fun C D => Bd (compEnvC scope cl C env) O₁.length) hh hsc hcs hcl1 hcl2 R R₁ K₁ hI ok (fun C D hD => fit _ _ _ _ _ hD) (fun C D => hx C cl) ?_
  intro D C ys O' h' tk m hk R' K' hD hC hCD hCa hDa l hm
  obtain ⟨a1, a2, a3⟩ := R.apart (h' := s.heap) hC
  have hBC : B.get? C = none := by
    cases e : B.get? C with
    | none => rfl
    | some o => rw [R.base C o e] at hC; cases hC
  refine ⟨m, hm, fun h'' hs'' => ?_⟩
  refine q _ _ O' h'' tk hk (R'.dropC hs'' hm hBC a2 a3) ⟨fun b o hb e => sameBut_obj hs'' (K'.get b o hb e) (fun q => by rw [q, hC] at e; cases e)⟩ ⟨D, rfl, hDa, hD, lstAt_dropC (al := al) hs'' hm l⟩

/-- x = [..] on one line: the list goes straight to its name -/
theorem W1_comp {x : Str} {px spos : Pos} {elt target iter : Expr} {ifs : List Expr} {more : List Comprehension} {scope : Scope} {cpos : Pos} {Bd : Env → Nat → Bdy} {K : Fl → Rho → Store → Prop} (ts : List Str) (cs : List (Str × V)) (hh : A.handled = none)
    (fit : CompFits prog w B A elt target iter ifs more scope cpos Bd) (hsc : compOk scope ts (cs.map (·.1)) = true) (hcs : ∀ p ∈ cs, (p.1, some p.2) ∈ ρ ∧ env.kindOf p.1 = some .cell)
    (h : WI prog w B A env iter ρ O (fun xs O₁ => CompK env scope target Bd ts cs (fun ys O₂ => ∃ ρ', Put ρ x (.lst ys) ρ' ∧ K .next ρ' O₂) xs O₁))
    (hsw : swapsWith (.ListComp elt (⟨target, iter, ifs, 0⟩ :: more) scope cpos) (some (.Name x px)) spos.line env = pure true)
    (hs : ∀ x, foldedSetIterable iter env x = pure x := by intro _; rfl) :
    W1 prog w B A env (.Assign [.Name x px] (.ListComp elt (⟨target, iter, ifs, 0⟩ :: more) scope cpos) spos) ρ O K := fun al s R Q E q => by
  rw [exec_Assign_Name_used _ _ _ _ hsw]
  obtain ⟨k1, k2⟩ := compOk_kind hsc
  obtain ⟨cl, hcl, hcl1, hcl2⟩ := comp_free hsc hcs R
  refine wpAny_bind (wpAny_standAt (wpAny_bind ?_))
  show wpAny _ A (do let _ ← comprehension (.ListComp elt (⟨target, iter, ifs, 0⟩ :: more) scope cpos) scope env _ (newList []) false (eval iter env) (some (assign (.Name x px) env))) _ _ s
  refine wpAny_bind (wpAny_mono (wpAny_comprehension_free (use := some (assign (.Name x px) env)) (Q := fun _ s' => Q .next s') rfl hs hcl k1 k2 ?_) (fun _ s' hq => wpAny_pure (wpAny_pure hq)) fun _ _ e => e)
  refine wpAny_mono (h al s R (fun it s₂ => wpAny (model prog w) A (newList []) (fun acc s₃ => wpAny (model prog w) A (newFunctionEnv scope env.globals cl [] env.qual none .none (some env)) (fun cenv s₄ =>
      codeAny (model prog w) A (.compStart (.ListComp elt (⟨target, iter, ifs, 0⟩ :: more) scope cpos) 0 it acc { cenv with scope := relabel scope env }) (compPost (model prog w) A E (some (assign (.Name x px) env)) (fun _ s' => Q .next s') acc cenv.locals) s₄) E s₃) E s₂) E fun xs O₁ h₁ tk₁ I hx R₁ K₁ hI ok => ?_) (fun x s₁ h₁ => h₁) fun _ _ z => z
  refine comp_core (s := { s with heap := h₁, toks := tk₁ }) (RR := fun acc C => compPost (model prog w) A E (some (assign (.Name x px) env)) (fun _ s' => Q .next s') acc C) (K := fun ys O₂ => ∃ ρ', Put ρ x (.lst ys) ρ' ∧ K .next ρ' O₂) (Bd := fun C D => Bd (compEnvC scope cl C env) O₁.length) hh hsc hcs hcl1 hcl2 R R₁ K₁ hI ok (fun C D hD => fit _ _ _ _ _ hD) (fun C D => hx C cl) ?_
  intro D C ys O' h' tk m hk R' K' hD hC hCD hCa hDa l hm
  obtain ⟨a1, a2, a3⟩ := R.apart (h' := s.heap) hC
  have hBC : B.get? C = none := by
    cases e : B.get? C with
    | none => rfl
    | some o => rw [R.base C o e] at hC; cases hC
  obtain ⟨ρ', hp, hk⟩ := hk
  show wpAny _ A (assign (.Name x px) env (.ref D)) _ _ _
  refine wpAny_assign_Name (store_name (s := { s with heap := h', toks := tk }) R' hp (show VH al h' (.ref D) (.lst ys) from ⟨D, rfl, hDa, l⟩) fun h₂ tk₂ R₂ K₂ => ?_)
  have hm₂ : h₂.Ns C m := by
    obtain ⟨o, es, ep, ho, r⟩ := hm
    exact ⟨o, es, ep, K₂.get C o hCa a2 a3 ho, r⟩
  refine ⟨m, hm₂, fun h'' hs'' => ?_⟩
  refine q .next .next ρ' O' al h'' tk₂ hk rfl (R₂.dropC hs'' hm₂ hBC a2 a3) ⟨fun b o hb hL hc e => sameBut_obj hs'' (K₂.get b o hb hL hc (K'.get b o hb e)) (fun q => by rw [q, hC] at e; cases e)⟩ (.refl ..)
end

section
variable {prog : Program} {w : World} {B : Heap} {A : Around} {env : Env} {ρ : Rho} {O O0 : Store} {mg mb : Str → Option Value}
/-! the program's functions, by their place -/
def nth {α : Type} : List α → Nat → Option α
  | [], _ => none
  | x :: _, 0 => some x
  | _ :: r, n + 1 => nth r n
theorem nth_mem {α : Type} : ∀ {l : List α} {n : Nat} {x : α}, nth l n = some x → x ∈ l
  | y :: r, 0, x, h => by
    have : y = x := by simpa [nth] using h
    subst this; exact .head _
  | y :: r, n + 1, x, h => .tail _ (nth_mem (by simpa [nth] using h))
def fnName : Stmt → Str
  | .FunctionDef n _ _ _ _ _ _ _ _ _ => n
  | _ => ""
def fnArgs : Stmt → Arguments
  | .FunctionDef _ a _ _ _ _ _ _ _ _ => a
  | _ => default
def fnBody : Stmt → List Stmt
  | .FunctionDef _ _ b _ _ _ _ _ _ _ => b
  | _ => []
def fnScope : Stmt → Scope
  | .FunctionDef _ _ _ _ _ _ sc _ _ _ => sc
  | _ => default
def FnIs (B : Heap) (mg : Str → Option Value) (st : Stmt) : Prop := ∃ f o pm cd doc, mg (fnName st) = some (.ref f) ∧ B.get? f = some o ∧ o.data = .func (docDef (fnName st) (fnArgs st) (fnBody st) (fnScope st) pm cd doc) ∧ B.CodeRec cd (fnName st)
/-- a call of one of the program's functions -/
def Ct (prog : Program) (w : World) (B : Heap) (mg : Str → Option Value) (A : Around) (st : Stmt) (vs : List V) (O : Store) (K : V → Store → Prop) : Prop :=
  ∀ f, mg (fnName st) = some (.ref f) → CK prog w B A (.ref f) vs O K
theorem WE_callS {st : Stmt} {x : Str} {p pos : Pos} {e : Expr} {es : List Expr} {K : V → Store → Prop} (W : Wd B mg mb) (F : FnIs B mg st) (hx : env.kindOf x = some .globalImplicit) (hn : x = fnName st)
    (h : WL prog w B A env pos (e :: es) ρ O (fun vs O' => Ct prog w B mg A st vs O' K))
    (he : starEach (e :: es) env = (false, eval e env) :: starEach es env := by rfl) (hd' : (x == ("__debug__" : Str)) = false := by decide) :
    WE prog w B A env (.Call (.Name x p) (e :: es) [] pos) ρ O K := by
  subst hn
  obtain ⟨f, o, pm, cd, doc, hf, ho, hd, hcd⟩ := F
  exact WE_callF W hx hf ho hd (fun al s R Q E q => h al s R Q E fun vs vals O' h' tk hk => q vs vals O' h' tk (hk f hf)) he hd'
theorem Ct_def {st : Stmt} {n : Nat} {ps ls : List Str} {vs : List V} {ρ0 : Rho} {K : V → Store → Prop} (W : Wd B mg mb) (hA : Room A (n + 1)) (F : FnIs B mg st) (hsc : scopeOk (fnScope st) ps ls = true) (hl : vs.length = ps.length)
    (hbind : ∀ (pm cd doc : Value) (vals : List Value), vals.length = ps.length → bindArgs (docDef (fnName st) (fnArgs st) (fnBody st) (fnScope st) pm cd doc) ⟨vals, []⟩ = pure (ps.zip vals))
    (hρ : rho0 ps vs ls = ρ0)
    (h : ∀ (A' : Around) (L : Addr) (cl : List (Str × Addr)) (f : Addr) (cd : Value), Room A' n → WS prog w B A' (newEnv (fnScope st) L mainGlobals cl (fnName st ++ ".<locals>.") (some f) cd none builtinsNs) (fnBody st) ρ0 O (fun fl ρ' O' => K (retF O.length O' fl) (O'.take O.length))) :
    Ct prog w B mg A st vs O K := fun f hf => by
  subst hρ
  obtain ⟨f', o, pm, cd, doc, hf', ho, hd, hcd⟩ := F
  rw [hf] at hf'; cases hf'
  exact CK_def W hA ho hd hcd hsc hl (hbind pm cd doc) fun A' L cl hA' => h A' L cl f cd hA'
theorem Op_is_tup {ns : List Int} {C : V → Prop} (h : C (.bool false)) : Op2 prog w B A O (compareOp .Is) (.tup ns) .none C := Op_is_none (a := some ns) h
theorem Op_isnot_tup {ns : List Int} {C : V → Prop} (h : C (.bool true)) : Op2 prog w B A O (compareOp .IsNot) (.tup ns) .none C := Op_isnot_none (a := some ns) h
theorem Op_is_nn {C : V → Prop} (h : C (.bool true)) : Op2 prog w B A O (compareOp .Is) .none .none C := Op_is_none (a := none) h
theorem x_tup {ns : List Int} {k n : Int} {P : V → Prop} (hk : (decide (0 ≤ k) && decide (k < 64)) = true) (hn : ns[k.toNat]? = some n) (h : P (.int n)) : ∃ j v, V.int k = V.int j ∧ ItemIs O (.tup ns) j v ∧ P v := by
  rw [Bool.and_eq_true, decide_eq_true_eq, decide_eq_true_eq] at hk
  exact ⟨k, _, rfl, .tup hk.1 hk.2 hn, h⟩
theorem x_lst {v : V} {xs : List It} {k : Int} {x : It} {P : V → Prop} (hl : ListIs O v xs) (hk : (decide (0 ≤ k) && decide (k < 64)) = true) (hn : xs[k.toNat]? = some x) (h : P (.it x)) : ∃ j v', V.int k = V.int j ∧ ItemIs O v j v' ∧ P v' := by
  rw [Bool.and_eq_true, decide_eq_true_eq, decide_eq_true_eq] at hk
  exact ⟨k, _, rfl, .lst hl hk.1 (by omega) hn, h⟩
theorem x_ints {vs : List V} {ns : List Int} {P : List Int → Prop} (hi : IntsOf vs ns) (hl : Nat.ble ns.length 64 = true) (h : P ns) : ∃ ns, IntsOf vs ns ∧ ns.length ≤ 64 ∧ P ns := ⟨ns, hi, Nat.le_of_ble_eq_true hl, h⟩
theorem x_its {vs : List V} {ns : List It} {P : List It → Prop} (hi : ItsOf vs ns) (hl : Nat.ble ns.length 64 = true) (h : P ns) : ∃ ns, ItsOf vs ns ∧ ns.length ≤ 64 ∧ P ns := ⟨ns, hi, Nat.le_of_ble_eq_true hl, h⟩
theorem x_int {m : Int} {P : Int → Prop} (h : P m) : ∃ n, V.int m = V.int n ∧ P n := ⟨m, rfl, h⟩
theorem x_put {ρ ρ1 : Rho} {x : Str} {v : V} {P : Rho → Prop} (hp : Put ρ x v ρ1) (h : P ρ1) : ∃ ρ', Put ρ x v ρ' ∧ P ρ' := ⟨ρ1, hp, h⟩
theorem x_putI {ρ ρ1 : Rho} {x : Str} {y : It} {P : Rho → Prop} (hp : Put ρ x (.it y) ρ1) (h : P ρ1) : ∃ ρ', Put ρ x (V.it y).hold ρ' ∧ P ρ' := ⟨ρ1, hp, h⟩
theorem x_putB {ρ ρ1 : Rho} {x : Str} {y : Bool} {P : Rho → Prop} (hp : Put ρ x (.bool y) ρ1) (h : P ρ1) : ∃ ρ', Put ρ x (V.bool y).hold ρ' ∧ P ρ' := ⟨ρ1, hp, h⟩
theorem x_putL {ρ ρ1 : Rho} {x : Str} {y : List It} {P : Rho → Prop} (hp : Put ρ x (.lst y) ρ1) (h : P ρ1) : ∃ ρ', Put ρ x (V.fresh y).hold ρ' ∧ P ρ' := ⟨ρ1, hp, h⟩
theorem x_putN {ρ ρ1 : Rho} {x : Str} {P : Rho → Prop} (hp : Put ρ x .none ρ1) (h : P ρ1) : ∃ ρ', Put ρ x V.none.hold ρ' ∧ P ρ' := ⟨ρ1, hp, h⟩
theorem x_putO {ρ ρ1 : Rho} {x : Str} {o : Option (List Int)} {P : Rho → Prop} (hp : Put ρ x (.opt o) ρ1) (h : P ρ1) : ∃ ρ', Put ρ x (V.opt o).hold ρ' ∧ P ρ' := by
  cases o with
  | none => exact ⟨ρ1, hp, h⟩
  | some ns => exact ⟨ρ1, hp, h⟩
theorem x_own {ρ ρ1 : Rho} {x : Str} {v : V} {xs : List It} {P : List It → Rho → Prop} (hp : Put ρ x v ρ1) (h : P xs ρ1) : ∃ ys ρ', V.fresh xs = .fresh ys ∧ Put ρ x v ρ' ∧ P ys ρ' := ⟨xs, ρ1, rfl, hp, h⟩
theorem x_putAll {ρ ρ1 : Rho} {ns : List Int} {n : Nat} {xs : List Int → List V} {ks : List Str} {P : Rho → Prop} (hl : Nat.beq ns.length n = true) (hp : PutAll ρ ks (xs ns) ρ1) (h : P ρ1) : ∃ ms ρ', V.tup ns = .tup ms ∧ ms.length = n ∧ PutAll ρ ks (xs ms) ρ' ∧ P ρ' := ⟨ns, ρ1, rfl, Nat.eq_of_beq_eq_true hl, hp, h⟩
theorem x_app {y : It} {k : Nat} {xs : List It} {P : It → List It → Prop} (ho : O[k]? = some xs) (hz : xs.length ≤ 1000000) (h : P y xs) : ∃ y' ys, V.it y = .it y' ∧ O[k]? = some ys ∧ ys.length ≤ 1000000 ∧ P y' ys := ⟨y, xs, rfl, ho, hz, h⟩
theorem x_it {y : It} {P : It → Prop} (h : P y) : ∃ z, V.it y = .it z ∧ P z := ⟨y, rfl, h⟩
theorem getSet {k : Nat} {xs ys : List It} (ho : O[k]? = some xs) : (O.set k ys)[k]? = some ys := by
  have hk := (List.getElem?_eq_some_iff.mp ho).1
  rw [List.getElem?_set_self hk]
theorem x_set {j : Int} {k : Nat} {xs : List It} {P : Int → List It → Prop} (ho : O[k]? = some xs) (hj : (decide (0 ≤ j) && decide (j < xs.length) && decide (xs.length ≤ 1000000)) = true) (h : P j xs) : ∃ i ys, V.int j = V.int i ∧ O[k]? = some ys ∧ 0 ≤ i ∧ i < ys.length ∧ ys.length ≤ 1000000 ∧ P i ys := by
  simp only [Bool.and_eq_true, decide_eq_true_eq] at hj
  exact ⟨j, xs, rfl, ho, hj.1.1, hj.1.2, hj.2, h⟩
theorem then_ret {v : V} {C : Rho → Store → Prop} {K : Fl → Rho → Store → Prop} (h : K (.ret v) ρ O) : Then C K (.ret v) ρ O := h
theorem then_next {C : Rho → Store → Prop} {K : Fl → Rho → Store → Prop} (h : C ρ O) : Then C K .next ρ O := h
theorem fin_v {v : V} {O : Store} {K : V → Store → Prop} (h : K v O) (hv : ∀ k, v ≠ .own k := by intro _ e; cases e) : K (retF O.length O (.ret v)) (O.take O.length) := by
  rw [List.take_length]
  have e : retF O.length O (.ret v) = v := by
    show retV _ _ v = v
    cases v <;> first | rfl | exact absurd rfl (hv _)
  rw [e]; exact h
theorem fin_n {v : V} {n : Nat} {O : Store} {K : V → Store → Prop} (hn : O.length = n) (h : K v O) (hv : ∀ k, v ≠ .own k) : K (retF n O (.ret v)) (O.take n) := by
  subst hn; exact fin_v h hv
theorem fin_next {O : Store} {K : V → Store → Prop} (h : K .none O) : K (retF O.length O .next) (O.take O.length) := by
  rw [List.take_length]; exact h
/-- a function gives back the list that it made last -/
theorem fin_own {O : Store} {xs : List It} {K : V → Store → Prop} (h : K (.fresh xs) O) : K (retF O.length (O ++ [xs]) (.ret (.own O.length))) ((O ++ [xs]).take O.length) := by
  rw [List.take_left]
  have e : retF O.length (O ++ [xs]) (.ret (.own O.length)) = .fresh xs := by
    show retV _ _ (V.own _) = _
    unfold retV
    simp [List.getD]
  rw [e]; exact h
end

def stAt (i : Nat) : Stmt := match nth PySem.Challenge.pw_nu0003_01.main.body i with
  | some s => s
  | none => .Pass ⟨0, 0, 0, 0⟩
structure Prg (B : Heap) (mg mb : Str → Option Value) : Prop where
  W : Wd B mg mb
  f4 : FnIs B mg (stAt 4)
  f5 : FnIs B mg (stAt 5)
  f6 : FnIs B mg (stAt 6)
  f7 : FnIs B mg (stAt 7)
  f8 : FnIs B mg (stAt 8)
  f9 : FnIs B mg (stAt 9)
  f10 : FnIs B mg (stAt 10)
  f11 : FnIs B mg (stAt 11)
  f13 : FnIs B mg (stAt 13)
  f14 : FnIs B mg (stAt 14)
  f15 : FnIs B mg (stAt 15)
  f16 : FnIs B mg (stAt 16)
  f17 : FnIs B mg (stAt 17)
theorem small_small {a b c : Int} (ha : -100000 ≤ a) (ha' : a ≤ 100000) (hb : -100000 ≤ b) (hb' : b ≤ 100000) (hc : 1 ≤ c) (hc' : c ≤ 100000) : Builtin.Range.small a b c = true := by
  have h1 := rangeSize_toNat a b c
  have h2 := rangeSize_toNat_le a b c
  unfold Builtin.Range.small Builtin.Range.rangeFitsLong
  have hc0 : c > 0 := by omega
  simp only [hc0, if_true, Bool.and_eq_true, decide_eq_true_eq, Bool.or_eq_true, beq_iff_eq]
  omega
def mxI (a b : Int) : Int := if b > a then b else a
def mnI (a b : Int) : Int := if b < a then b else a

section
variable {prog : Program} {w : World} {B : Heap} {A : Around} {env : Env} {ρ : Rho} {O : Store}
theorem WI.mono {e : Expr} {K K' : List It → Store → Prop} (h : WI prog w B A env e ρ O K) (hk : ∀ v O, K v O → K' v O) : WI prog w B A env e ρ O K' :=
  fun al s R Q E q => h al s R Q E fun xs O' h' tk I k => q xs O' h' tk I (hk _ _ k)
theorem then_mono {C C' : Rho → Store → Prop} {K : Fl → Rho → Store → Prop} (h : ∀ ρ O, C ρ O → C' ρ O) : ∀ fl ρ O, Then C K fl ρ O → Then C' K fl ρ O
  | .next, _, _, t => h _ _ t
  | .ret _, _, _, t => t
/-- a loop by what holds before each turn -/
theorem forK_ind {n : Str} {body : List Stmt} {K : Fl → Rho → Store → Prop} (I : List It → Rho → Store → Prop) (hnil : ∀ ρ O, I [] ρ O → K .next ρ O)
    (hcons : ∀ x xs ρ O, I (x :: xs) ρ O → ∃ ρ', Put ρ n (.it x) ρ' ∧ WS prog w B A env body ρ' O (Then (I xs) K)) : ∀ {xs : List It} {ρ : Rho} {O : Store}, I xs ρ O → ForK prog w B A env n body K xs ρ O
  | [], ρ, O, h => hnil ρ O h
  | x :: xs, ρ, O, h => by
    obtain ⟨ρ', hp, hw⟩ := hcons x xs ρ O h
    exact ⟨ρ', hp, hw.mono (then_mono fun ρ O i => forK_ind I hnil hcons i)⟩
theorem forE_ind {n m : Str} {body : List Stmt} {K : Fl → Rho → Store → Prop} (I : Nat → List It → Rho → Store → Prop) (hnil : ∀ i ρ O, I i [] ρ O → K .next ρ O)
    (hcons : ∀ i x xs ρ O, I i (x :: xs) ρ O → ∃ ρ', PutAll ρ [n, m] [.int ((i : Nat) : Int), .it x] ρ' ∧ WS prog w B A env body ρ' O (Then (I (i + 1) xs) K)) : ∀ {xs : List It} {i : Nat} {ρ : Rho} {O : Store}, I i xs ρ O → ForE prog w B A env n m body K i xs ρ O
  | [], i, ρ, O, h => hnil i ρ O h
  | x :: xs, i, ρ, O, h => by
    obtain ⟨ρ', hp, hw⟩ := hcons i x xs ρ O h
    exact ⟨ρ', hp, hw.mono (then_mono fun ρ O i => forE_ind I hnil hcons i)⟩
def BdMono (Bd : Bdy) : Prop := ∀ ρ O (K K' : Rho → Store → Prop), (∀ ρ O, K ρ O → K' ρ O) → Bd ρ O K → Bd ρ O K'
theorem cloop_ind {target : Expr} {Bd : Bdy} {K : Rho → Store → Prop} (hm : BdMono Bd) (I : List It → Rho → Store → Prop) (hnil : ∀ ρ O, I [] ρ O → K ρ O)
    (hcons : ∀ x xs ρ O, I (x :: xs) ρ O → ∃ ρ', TgtOk env target ρ x ρ' ∧ Bd ρ' O (I xs)) : ∀ {xs : List It} {ρ : Rho} {O : Store}, I xs ρ O → CLoop env target Bd K xs ρ O
  | [], ρ, O, h => hnil ρ O h
  | x :: xs, ρ, O, h => by
    obtain ⟨ρ', hp, hw⟩ := hcons x xs ρ O h
    exact ⟨ρ', hp, hm _ _ _ _ (fun ρ O i => cloop_ind hm I hnil hcons i) hw⟩
theorem cloop_mono {target : Expr} {Bd : Bdy} (hm : BdMono Bd) {K K' : Rho → Store → Prop} (hk : ∀ ρ O, K ρ O → K' ρ O) : ∀ {xs : List It} {ρ : Rho} {O : Store}, CLoop env target Bd K xs ρ O → CLoop env target Bd K' xs ρ O
  | [], ρ, O, h => hk _ _ h
  | x :: xs, ρ, O, h => by
    obtain ⟨ρ', hp, hw⟩ := h
    exact ⟨ρ', hp, hm _ _ _ _ (fun ρ O i => cloop_mono hm hk i) hw⟩
theorem mono0 {elt : Expr} {k : Nat} : BdMono (Bd0 prog w B A elt env k) := fun ρ O K K' hk h => WX.mono h fun v O ⟨y, acc, a, b, c, d⟩ => ⟨y, acc, a, b, c, hk _ _ d⟩
theorem mono1 {c elt : Expr} {k : Nat} : BdMono (Bd1 prog w B A c elt env k) := fun ρ O K K' hk h => WT.mono h fun v O ⟨x, y⟩ => ⟨fun e => mono0 _ _ _ _ hk (x e), fun e => hk _ _ (y e)⟩
theorem mono2 {iter target elt : Expr} {k : Nat} : BdMono (Bd2 prog w B A iter target elt env k) := fun ρ O K K' hk h => WI.mono h fun v O x => cloop_mono mono0 hk x
theorem x_range3 {a b c : Int} {P : Int → Int → Nat → Prop} (hc : 1 ≤ c) (hc' : c ≤ 100000) (ha : -100000 ≤ a) (ha' : a ≤ 100000) (hb : -100000 ≤ b) (hb' : b ≤ 100000) (h : P a c (Builtin.Range.rangeSize a b c).toNat) :
    ∃ a' b' c' n, ([V.int a, V.int b, V.int c] = [V.int b'] ∧ a' = 0 ∧ c' = 1 ∨ [V.int a, V.int b, V.int c] = [V.int a', V.int b'] ∧ c' = 1 ∨ [V.int a, V.int b, V.int c] = [V.int a', V.int b', V.int c']) ∧ c' ≠ 0 ∧ c'.natAbs < 1073741824 ∧
      Builtin.Range.small a' b' c' = true ∧ Builtin.Range.rangeSize a' b' c' = ((n : Nat) : Int) ∧ P a' c' n :=
  ⟨a, b, c, _, .inr (.inr rfl), by omega, by omega, small_small ha ha' hb hb' hc hc', rangeSize_toNat a b c, h⟩
theorem x_range2 {a b : Int} {P : Int → Int → Nat → Prop} (ha : -100000 ≤ a) (ha' : a ≤ 100000) (hb : -100000 ≤ b) (hb' : b ≤ 100000) (h : P a 1 (Builtin.Range.rangeSize a b 1).toNat) :
    ∃ a' b' c' n, ([V.int a, V.int b] = [V.int b'] ∧ a' = 0 ∧ c' = 1 ∨ [V.int a, V.int b] = [V.int a', V.int b'] ∧ c' = 1 ∨ [V.int a, V.int b] = [V.int a', V.int b', V.int c']) ∧ c' ≠ 0 ∧ c'.natAbs < 1073741824 ∧
      Builtin.Range.small a' b' c' = true ∧ Builtin.Range.rangeSize a' b' c' = ((n : Nat) : Int) ∧ P a' c' n :=
  ⟨a, b, 1, _, .inr (.inl ⟨rfl, rfl⟩), by omega, by omega, small_small ha ha' hb hb' (by omega) (by omega), rangeSize_toNat a b 1, h⟩
theorem x_range1 {b : Int} {P : Int → Int → Nat → Prop} (hb : -100000 ≤ b) (hb' : b ≤ 100000) (h : P 0 1 (Builtin.Range.rangeSize 0 b 1).toNat) :
    ∃ a' b' c' n, ([V.int b] = [V.int b'] ∧ a' = 0 ∧ c' = 1 ∨ [V.int b] = [V.int a', V.int b'] ∧ c' = 1 ∨ [V.int b] = [V.int a', V.int b', V.int c']) ∧ c' ≠ 0 ∧ c'.natAbs < 1073741824 ∧
      Builtin.Range.small a' b' c' = true ∧ Builtin.Range.rangeSize a' b' c' = ((n : Nat) : Int) ∧ P a' c' n :=
  ⟨0, b, 1, _, .inl ⟨rfl, rfl, rfl⟩, by omega, by omega, small_small (by omega) (by omega) hb hb' (by omega) (by omega), rangeSize_toNat 0 b 1, h⟩
inductive CapsOk (env : Env) (ρ : Rho) : List (Str × V) → Prop
  | nil : CapsOk env ρ []
  | cons {x : Str} {v : V} {cs : List (Str × V)} : (x, some v) ∈ ρ → env.kindOf x = some .cell → CapsOk env ρ cs → CapsOk env ρ ((x, v) :: cs)
theorem CapsOk.all {cs : List (Str × V)} (c : CapsOk env ρ cs) : ∀ p ∈ cs, (p.1, some p.2) ∈ ρ ∧ env.kindOf p.1 = some .cell := by
  induction c with
  | nil => exact fun _ h => nomatch h
  | cons a b _ ih =>
    intro p hp
    rcases List.mem_cons.mp hp with rfl | hp
    · exact ⟨a, b⟩
    · exact ih p hp
theorem getA {xs : List It} : (O ++ [xs])[O.length]? = some xs := by simp
theorem setA {xs ys : List It} : (O ++ [xs]).set O.length ys = O ++ [ys] := by simp
theorem getDA {xs : List It} : (O ++ [xs]).getD O.length [] = xs := by simp [List.getD]
theorem takeA {xs : List It} : (O ++ [xs]).take O.length = O := List.take_left
end

section
variable {prog : Program} {w : World} {B : Heap} {A : Around} {env : Env} {ρ : Rho} {O : Store} {mg mb : Str → Option Value} {p pos : Pos} {e : Expr} {es : List Expr} {K : V → Store → Prop} {n : Nat}
theorem WE_f4 (P : Prg B mg mb) (hx : env.kindOf "tiles_of" = some .globalImplicit) (he : starEach (e :: es) env = (false, eval e env) :: starEach es env) (h : WL prog w B A env pos (e :: es) ρ O (fun vs O' => Ct prog w B mg A (stAt 4) vs O' K)) : WE prog w B A env (.Call (.Name "tiles_of" p) (e :: es) [] pos) ρ O K := WE_callS P.W P.f4 hx rfl h he
theorem WE_f5 (P : Prg B mg mb) (hx : env.kindOf "halves_of" = some .globalImplicit) (he : starEach (e :: es) env = (false, eval e env) :: starEach es env) (h : WL prog w B A env pos (e :: es) ρ O (fun vs O' => Ct prog w B mg A (stAt 5) vs O' K)) : WE prog w B A env (.Call (.Name "halves_of" p) (e :: es) [] pos) ρ O K := WE_callS P.W P.f5 hx rfl h he
theorem WE_f6 (P : Prg B mg mb) (hx : env.kindOf "common_tile" = some .globalImplicit) (he : starEach (e :: es) env = (false, eval e env) :: starEach es env) (h : WL prog w B A env pos (e :: es) ρ O (fun vs O' => Ct prog w B mg A (stAt 6) vs O' K)) : WE prog w B A env (.Call (.Name "common_tile" p) (e :: es) [] pos) ρ O K := WE_callS P.W P.f6 hx rfl h he
theorem WE_f7 (P : Prg B mg mb) (hx : env.kindOf "clear_of" = some .globalImplicit) (he : starEach (e :: es) env = (false, eval e env) :: starEach es env) (h : WL prog w B A env pos (e :: es) ρ O (fun vs O' => Ct prog w B mg A (stAt 7) vs O' K)) : WE prog w B A env (.Call (.Name "clear_of" p) (e :: es) [] pos) ρ O K := WE_callS P.W P.f7 hx rfl h he
theorem WE_f8 (P : Prg B mg mb) (hx : env.kindOf "dots_of" = some .globalImplicit) (he : starEach (e :: es) env = (false, eval e env) :: starEach es env) (h : WL prog w B A env pos (e :: es) ρ O (fun vs O' => Ct prog w B mg A (stAt 8) vs O' K)) : WE prog w B A env (.Call (.Name "dots_of" p) (e :: es) [] pos) ρ O K := WE_callS P.W P.f8 hx rfl h he
theorem WE_f9 (P : Prg B mg mb) (hx : env.kindOf "holds" = some .globalImplicit) (he : starEach (e :: es) env = (false, eval e env) :: starEach es env) (h : WL prog w B A env pos (e :: es) ρ O (fun vs O' => Ct prog w B mg A (stAt 9) vs O' K)) : WE prog w B A env (.Call (.Name "holds" p) (e :: es) [] pos) ρ O K := WE_callS P.W P.f9 hx rfl h he
theorem WE_f10 (P : Prg B mg mb) (hx : env.kindOf "tile_at" = some .globalImplicit) (he : starEach (e :: es) env = (false, eval e env) :: starEach es env) (h : WL prog w B A env pos (e :: es) ρ O (fun vs O' => Ct prog w B mg A (stAt 10) vs O' K)) : WE prog w B A env (.Call (.Name "tile_at" p) (e :: es) [] pos) ρ O K := WE_callS P.W P.f10 hx rfl h he
theorem WE_f11 (P : Prg B mg mb) (hx : env.kindOf "tile_of_box" = some .globalImplicit) (he : starEach (e :: es) env = (false, eval e env) :: starEach es env) (h : WL prog w B A env pos (e :: es) ρ O (fun vs O' => Ct prog w B mg A (stAt 11) vs O' K)) : WE prog w B A env (.Call (.Name "tile_of_box" p) (e :: es) [] pos) ρ O K := WE_callS P.W P.f11 hx rfl h he
theorem WE_f13 (P : Prg B mg mb) (hx : env.kindOf "_law_pool" = some .globalImplicit) (he : starEach (e :: es) env = (false, eval e env) :: starEach es env) (h : WL prog w B A env pos (e :: es) ρ O (fun vs O' => Ct prog w B mg A (stAt 13) vs O' K)) : WE prog w B A env (.Call (.Name "_law_pool" p) (e :: es) [] pos) ρ O K := WE_callS P.W P.f13 hx rfl h he
theorem WE_f14 (P : Prg B mg mb) (hx : env.kindOf "_law_take" = some .globalImplicit) (he : starEach (e :: es) env = (false, eval e env) :: starEach es env) (h : WL prog w B A env pos (e :: es) ρ O (fun vs O' => Ct prog w B mg A (stAt 14) vs O' K)) : WE prog w B A env (.Call (.Name "_law_take" p) (e :: es) [] pos) ρ O K := WE_callS P.W P.f14 hx rfl h he
theorem WE_f15 (P : Prg B mg mb) (hx : env.kindOf "_law_one" = some .globalImplicit) (he : starEach (e :: es) env = (false, eval e env) :: starEach es env) (h : WL prog w B A env pos (e :: es) ρ O (fun vs O' => Ct prog w B mg A (stAt 15) vs O' K)) : WE prog w B A env (.Call (.Name "_law_one" p) (e :: es) [] pos) ρ O K := WE_callS P.W P.f15 hx rfl h he
theorem WE_f16 (P : Prg B mg mb) (hx : env.kindOf "_law_dots" = some .globalImplicit) (he : starEach (e :: es) env = (false, eval e env) :: starEach es env) (h : WL prog w B A env pos (e :: es) ρ O (fun vs O' => Ct prog w B mg A (stAt 16) vs O' K)) : WE prog w B A env (.Call (.Name "_law_dots" p) (e :: es) [] pos) ρ O K := WE_callS P.W P.f16 hx rfl h he
theorem WE_f17 (P : Prg B mg mb) (hx : env.kindOf "_law_once" = some .globalImplicit) (he : starEach (e :: es) env = (false, eval e env) :: starEach es env) (h : WL prog w B A env pos (e :: es) ρ O (fun vs O' => Ct prog w B mg A (stAt 17) vs O' K)) : WE prog w B A env (.Call (.Name "_law_once" p) (e :: es) [] pos) ρ O K := WE_callS P.W P.f17 hx rfl h he
theorem WE_b_max (P : Prg B mg mb) (hx : env.kindOf "max" = some .globalImplicit) (he : starEach (e :: es) env = (false, eval e env) :: starEach es env) (hp : (backTo pos (starEach es env)).any (·.1) = false) (h : WL prog w B A env pos (e :: es) ρ O (fun vs O' => CK prog w B A (.builtin "max") vs O' K)) : WE prog w B A env (.Call (.Name "max" p) (e :: es) [] pos) ρ O K := WE_callB P.W hx (by simp) (by with_unfolding_all rfl) .b h he hp
theorem WE_b_min (P : Prg B mg mb) (hx : env.kindOf "min" = some .globalImplicit) (he : starEach (e :: es) env = (false, eval e env) :: starEach es env) (hp : (backTo pos (starEach es env)).any (·.1) = false) (h : WL prog w B A env pos (e :: es) ρ O (fun vs O' => CK prog w B A (.builtin "min") vs O' K)) : WE prog w B A env (.Call (.Name "min" p) (e :: es) [] pos) ρ O K := WE_callB P.W hx (by simp) (by with_unfolding_all rfl) .b h he hp
theorem WE_b_len (P : Prg B mg mb) (hx : env.kindOf "len" = some .globalImplicit) (he : starEach (e :: es) env = (false, eval e env) :: starEach es env) (hp : (backTo pos (starEach es env)).any (·.1) = false) (h : WL prog w B A env pos (e :: es) ρ O (fun vs O' => CK prog w B A (.builtin "len") vs O' K)) : WE prog w B A env (.Call (.Name "len" p) (e :: es) [] pos) ρ O K := WE_callB P.W hx (by simp) (by with_unfolding_all rfl) .b h he hp
theorem WE_b_sum (P : Prg B mg mb) (hx : env.kindOf "sum" = some .globalImplicit) (he : starEach (e :: es) env = (false, eval e env) :: starEach es env) (hp : (backTo pos (starEach es env)).any (·.1) = false) (h : WL prog w B A env pos (e :: es) ρ O (fun vs O' => CK prog w B A (.builtin "sum") vs O' K)) : WE prog w B A env (.Call (.Name "sum" p) (e :: es) [] pos) ρ O K := WE_callB P.W hx (by simp) (by with_unfolding_all rfl) .b h he hp
theorem WE_b_sorted (P : Prg B mg mb) (hx : env.kindOf "sorted" = some .globalImplicit) (he : starEach (e :: es) env = (false, eval e env) :: starEach es env) (hp : (backTo pos (starEach es env)).any (·.1) = false) (h : WL prog w B A env pos (e :: es) ρ O (fun vs O' => CK prog w B A (.builtin "sorted") vs O' K)) : WE prog w B A env (.Call (.Name "sorted" p) (e :: es) [] pos) ρ O K := WE_callB P.W hx (by simp) (by with_unfolding_all rfl) .b h he hp
theorem WE_b_int (P : Prg B mg mb) (hx : env.kindOf "int" = some .globalImplicit) (he : starEach (e :: es) env = (false, eval e env) :: starEach es env) (hp : (backTo pos (starEach es env)).any (·.1) = false) (h : WL prog w B A env pos (e :: es) ρ O (fun vs O' => CK prog w B A (.type "int") vs O' K)) : WE prog w B A env (.Call (.Name "int" p) (e :: es) [] pos) ρ O K := WE_callB P.W hx (by simp) (by with_unfolding_all rfl) .t h he hp
theorem WI_rangeP {K : List It → Store → Prop} (P : Prg B mg mb) (hA : Room A n) (hx : env.kindOf "range" = some .globalImplicit) (he : starEach (e :: es) env = (false, eval e env) :: starEach es env) (hp : (backTo pos (starEach es env)).any (·.1) = false)
    (h : WL prog w B A env pos (e :: es) ρ O (fun vs O' => ∃ a b c n, (vs = [.int b] ∧ a = 0 ∧ c = 1 ∨ vs = [.int a, .int b] ∧ c = 1 ∨ vs = [.int a, .int b, .int c]) ∧ c ≠ 0 ∧ c.natAbs < 1073741824 ∧
      Builtin.Range.small a b c = true ∧ Builtin.Range.rangeSize a b c = ((n : Nat) : Int) ∧ K (rangeL a c n) O')) : WI prog w B A env (.Call (.Name "range" p) (e :: es) [] pos) ρ O K := WI_range P.W hA.h hx h he hp
theorem WI_nameP {K : List It → Store → Prop} {x : Str} (hA : Room A n) (h : WE prog w B A env (.Name x p) ρ O (fun v O' => ∃ xs, (v = .lst xs ∨ v = .fresh xs) ∧ K xs O')) : WI prog w B A env (.Name x p) ρ O K := WI_list hA.h h
theorem WI_callP {K : List It → Store → Prop} (hA : Room A n) (h : WE prog w B A env (.Call (.Name "_law_dots" p) (e :: es) [] pos) ρ O (fun v O' => ∃ xs, (v = .lst xs ∨ v = .fresh xs) ∧ K xs O')) : WI prog w B A env (.Call (.Name "_law_dots" p) (e :: es) [] pos) ρ O K := WI_list hA.h h
theorem WI_sliceP {K : List It → Store → Prop} {x y : Expr} (hA : Room A n) (h : WE prog w B A env (.Subscript x y pos) ρ O (fun v O' => ∃ xs, (v = .lst xs ∨ v = .fresh xs) ∧ K xs O')) : WI prog w B A env (.Subscript x y pos) ρ O K := WI_list hA.h h
theorem CK_maxP {a b : Int} (hA : Room A n) (h : K (.int (if b > a then b else a)) O) : CK prog w B A (.builtin "max") [.int a, .int b] O K := CK_max hA.h h
theorem CK_minP {a b : Int} (hA : Room A n) (h : K (.int (if b < a then b else a)) O) : CK prog w B A (.builtin "min") [.int a, .int b] O K := CK_min hA.h h
theorem bits_ite (b : Bool) : Builtin.Int.intBits (if b = true then 1 else 0) ≤ 64 := by cases b <;> decide
end

set_option maxHeartbeats 2000000
local macro_rules | `(tactic| walk_at "r") => `(tactic| first | rfl | with_unfolding_all rfl)
local macro_rules | `(tactic| walk_at "mem") => `(tactic| with_reducible (repeat' (first | exact List.mem_cons_self | apply List.mem_cons_of_mem)))
local macro_rules | `(tactic| walk_at "kind") => `(tactic| kernel_rfl)
local macro_rules | `(tactic| walk_at "e1") => `(tactic| with_reducible first
  | refine WE_int ?_
  | refine WE_none ?_
  | refine WE_bool ?_
  | refine WE_BinOp ?_
  | refine WE_neg ?_
  | refine WE_one ?_
  | refine WE_and ?_
  | refine WE_IfExp ?_
  | refine WE_Tuple ?_
  | refine WE_List ?_
  | refine WE_slice ?_
  | refine WL_nil ?_
  | refine WT_not ?_
  | refine WT_and_nil ?_
  | refine WT_or_nil ?_
  | refine WT_and ?_
  | refine WT_or ?_
  | refine Op_add ?_
  | refine Op_sub ?_
  | refine Op_lt ?_
  | refine Op_le ?_
  | refine Op_gt ?_
  | refine Op_ge ?_
  | refine Op_eq ?_
  | refine Op_ne_bool ?_
  | refine Op_is_tup ?_
  | refine Op_is_nn ?_
  | refine Op_is_none ?_
  | refine Op_isnot_none ?_
  | refine asB ?_
  | refine W1_Return ?_
  | refine W1_If ?_)
local macro_rules | `(tactic| walk_at "e2") => `(tactic| first
  | ((with_reducible show WE _ _ _ _ _ (Expr.Name _ _) _ _ _); refine WE_Name (v := ?_) ?_ ?_; rotate_left; walk_at "mem")
  | ((with_reducible refine' WL_cons ?a ?b); (case b => rfl))
  | ((with_reducible refine' WE_Compare ?a ?b); (case b => walk_at "r"))
  | ((with_reducible refine' WE_chain ?a ?b); (case b => walk_at "r"))
  | ((with_reducible refine' WE_item ?a ?b); (case b => intro _ _; rfl))
  | ((with_reducible refine' WT_Compare ?a ?b); (case b => walk_at "r"))
  | ((with_reducible refine' WT_chain ?a ?b); (case b => walk_at "r"))
  | ((with_reducible refine' WT_val ?a ?b); (case b => rfl))
  | ((with_reducible refine' Op_div ?y ?g ?p); (case y => first | assumption | decide | omega); (case p => first | exact PyProof.noPylong_small (by decide) | exact PyProof.noPylong_small (by omega)))
  | ((with_reducible refine' Op_mod ?y ?g); (case y => first | assumption | decide | omega))
  | ((with_reducible refine' Op_mul ?g ?m); (case m => first | exact PySem.IntMulOk.of_right (by decide) | exact PySem.IntMulOk.of_right (bits_ite _) | exact PySem.IntMulOk.of_right (PySem.intBits_le_64 (by omega) (by omega)) | exact PySem.IntMulOk.of_left (PySem.intBits_le_64 (by omega) (by omega))))
  | (with_reducible refine Op_pow18 ?_)
  | ((with_reducible refine' Op_eq_lst ?u .fresh .fresh ?g); (case u => walk_at "u"))
  | ((with_reducible refine' Op_ne_lst ?u .fresh .fresh ?g); (case u => walk_at "u"))
  | ((with_reducible refine' Op_ne_lst ?u .lst .fresh ?g); (case u => walk_at "u"))
  | ((with_reducible refine' Op_ne_lst ?u .fresh .lst ?g); (case u => walk_at "u"))
  | ((with_reducible refine' Op_in ?u .fresh ?g); (case u => walk_at "u"))
  | ((with_reducible refine' Op_ne_opt ?u ?g); (case u => walk_at "u")))
local macro_rules | `(tactic| walk_at "u") => `(tactic| exact Room.room (by assumption))
local macro_rules | `(tactic| walk_at "e") => `(tactic| first | walk_at "e1" | walk_at "e2")
local macro_rules | `(tactic| walk_at "w") => `(tactic| with_reducible first | refine WS_cons ?_ | refine WS_nil ?_)
local macro_rules | `(tactic| walk_at "ints") => `(tactic| repeat' (first | exact IntsOf.nil | apply IntsOf.cons))
local macro_rules | `(tactic| walk_at "its") => `(tactic| repeat' (first | exact ItsOf.nil | apply ItsOf.cons))
local macro_rules | `(tactic| walk_at "puts") => `(tactic| repeat' (first | exact Put.here | apply Put.next | exact PutAll.nil | apply PutAll.cons))
local macro_rules | `(tactic| walk_at "rp") => `(tactic| with_reducible walk_at "puts")
local macro_rules | `(tactic| walk_at "x") => `(tactic| first
  | (refine x_int ?_)
  | (refine x_tup (by decide) rfl ?_)
  | (refine' x_own ?i ?k; (case i => walk_at "rp"))
  | (refine' x_lst ?l (by decide) ?n ?k; (case l => first | exact ListIs.lst | exact ListIs.fresh | exact ListIs.own (by assumption) | exact ListIs.own (getSet (by assumption))); (case n => rfl))
  | (refine' x_set ?l ?n ?k; (case l => first | assumption | exact getSet (by assumption)); (case n => rfl))
  | (refine x_it ?_)
  | (refine' x_ints ?i ?l ?k; (case i => walk_at "ints"); (case l => rfl))
  | (refine' x_its ?i ?l ?k; (case i => walk_at "its"); (case l => rfl))
  | (refine' x_putI ?i ?k; (case i => walk_at "rp"))
  | (refine' x_putB ?i ?k; (case i => walk_at "rp"))
  | (refine' x_putL ?i ?k; (case i => walk_at "rp"))
  | (refine' x_putO ?i ?k; (case i => walk_at "rp"))
  | (refine' x_putN ?i ?k; (case i => walk_at "rp"))
  | (refine' x_put ?i ?k; (case i => walk_at "rp"))
  | (refine' x_putAll ?l ?i ?k; (case l => rfl); (case i => walk_at "puts")))
local macro_rules | `(tactic| walk_at "b") => `(tactic| first
  | ((with_reducible show (_ = true → _) ∧ (_ = false → _)); refine ⟨fun hb => ?_, fun hb => ?_⟩ <;> (try (cases hb; done)))
  | ((with_reducible show (_ = false → _) ∧ (_ = true → _)); refine ⟨fun hb => ?_, fun hb => ?_⟩ <;> (try (cases hb; done)))
  | (with_reducible refine then_ret ?_)
  | (with_reducible refine then_next ?_)
  | ((with_reducible show Exists _); walk_at "x"))
local macro_rules | `(tactic| walk_at "a") => `(tactic| first
  | ((with_reducible refine' W1_Assign ?g ?s); (case s => rfl))
  | ((with_reducible refine' W1_setItem ?m ?g ?s ?d); (case m => walk_at "mem"); (case s => rfl); (case d => decide)))
local macro_rules | `(tactic| walk_at "f1") => `(tactic| with_reducible first
  | refine WE_f4 (by assumption) ?_ ?_ ?_
  | refine WE_f5 (by assumption) ?_ ?_ ?_
  | refine WE_f6 (by assumption) ?_ ?_ ?_
  | refine WE_f7 (by assumption) ?_ ?_ ?_
  | refine WE_f8 (by assumption) ?_ ?_ ?_
  | refine WE_f9 (by assumption) ?_ ?_ ?_
  | refine WE_f10 (by assumption) ?_ ?_ ?_
  | refine WE_f11 (by assumption) ?_ ?_ ?_
  | refine WE_f13 (by assumption) ?_ ?_ ?_
  | refine WE_f14 (by assumption) ?_ ?_ ?_
  | refine WE_f15 (by assumption) ?_ ?_ ?_
  | refine WE_f16 (by assumption) ?_ ?_ ?_
  | refine WE_f17 (by assumption) ?_ ?_ ?_)
local macro_rules | `(tactic| walk_at "f") => `(tactic| (walk_at "f1"; kernel_rfl; rfl))
local macro_rules | `(tactic| walk_at "c1") => `(tactic| with_reducible first
  | refine WE_b_max (by assumption) ?_ ?_ ?_ ?_
  | refine WE_b_min (by assumption) ?_ ?_ ?_ ?_
  | refine WE_b_len (by assumption) ?_ ?_ ?_ ?_
  | refine WE_b_sum (by assumption) ?_ ?_ ?_ ?_
  | refine WE_b_sorted (by assumption) ?_ ?_ ?_ ?_
  | refine WE_b_int (by assumption) ?_ ?_ ?_ ?_)
local macro_rules | `(tactic| walk_at "c") => `(tactic| first
  | (walk_at "c1"; kernel_rfl; rfl; rfl)
  | ((with_reducible refine WI_rangeP (by assumption) (by assumption) ?_ ?_ ?_ ?_); kernel_rfl; rfl; rfl)
  | (with_reducible refine WI_nameP (by assumption) ?_)
  | (with_reducible refine WI_callP (by assumption) ?_)
  | (with_reducible refine WI_sliceP (by assumption) ?_)
  | (with_reducible refine CK_maxP (by assumption) ?_)
  | (with_reducible refine CK_minP (by assumption) ?_)
  | (with_reducible refine CK_int ?_)
  | (with_reducible refine CK_int_bool ?_))
local macro_rules | `(tactic| walk_at "ee") => `(tactic| repeat' (first | walk_at "e" | walk_at "b" | walk_at "c" | walk_at "f"))
local macro_rules | `(tactic| walk_at "en") => `(tactic| repeat' (first | walk_at "e" | walk_at "b" | walk_at "w" | walk_at "c" | walk_at "f"))
local macro_rules | `(tactic| walk_at "es") => `(tactic| repeat' (first | walk_at "e" | walk_at "b" | walk_at "w" | walk_at "a" | walk_at "c" | walk_at "f"))

/-- rectangles of a small size -/
def RectOk (q : List Int) : Prop := ∃ a b c d, q = [a, b, c, d] ∧ (-1000 ≤ a ∧ a ≤ 1000) ∧ (-1000 ≤ b ∧ b ≤ 1000) ∧ (-1000 ≤ c ∧ c ≤ 1000) ∧ (-1000 ≤ d ∧ d ≤ 1000)
def areaP : List Int → Int
  | [_, _, c, d] => c * d
  | _ => 0

section
variable {prog : Program} {w : World} {B : Heap} {A : Around} {O : Store} {mg mb : Str → Option Value}
def holdsB (t : List Int) (x y : Int) : Bool := match t with
  | [a, b, c, d] => decide (a ≤ x) && decide (x < a + c) && (decide (b ≤ y) && decide (y < b + d))
  | _ => false
theorem holds_ok (P : Prg B mg mb) (hA : Room A 1) {a b c d x y : Int} {K : V → Store → Prop} (h : K (.bool (holdsB [a, b, c, d] x y)) O) : Ct prog w B mg A (stAt 9) [.tup [a, b, c, d], .int x, .int y] O K := by
  refine Ct_def (n := 0) (ps := ["tile", "x", "y"]) (ls := []) (ρ0 := [("tile", some (.tup [a, b, c, d])), ("x", some (.int x)), ("y", some (.int y))]) P.W hA P.f9 (by decide +kernel) rfl (fun pm cd doc vals hl => ?_) rfl fun A' L cl f cd hA' => ?_
  · match vals, hl with
    | [v1, v2, v3], _ => rfl
  · refine WS_cons ?_
    walk_at "es"

    all_goals (refine fin_v (K := K) ?_; refine Eq.mp (congrArg (fun z => K (.bool z) O) ?_) h; first | (simp_all [holdsB]; done) | (simp_all [holdsB]; omega))
end

section
variable {prog : Program} {w : World} {B : Heap} {A : Around} {O : Store} {mg mb : Str → Option Value}
def commonP (p q : List Int) : Option (List Int) := match p, q with
  | [a, b, c, d], [e, f, g, h] =>
    if (decide (mnI (a + c) (e + g) ≤ mxI a e) || decide (mnI (b + d) (f + h) ≤ mxI b f)) = true then none else some [mxI a e, mxI b f, mnI (a + c) (e + g) - mxI a e, mnI (b + d) (f + h) - mxI b f]
  | _, _ => none
theorem common_ok (P : Prg B mg mb) (hA : Room A 1) {a b c d e f' g h' : Int} {K : V → Store → Prop} (h : K (.opt (commonP [a, b, c, d] [e, f', g, h'])) O) : Ct prog w B mg A (stAt 6) [.tup [a, b, c, d], .tup [e, f', g, h']] O K := by
  refine Ct_def (n := 0) (ps := ["one", "other"]) (ls := ["left", "top", "right", "bottom"]) (ρ0 := [("one", some (.tup [a, b, c, d])), ("other", some (.tup [e, f', g, h'])), ("left", none), ("top", none), ("right", none), ("bottom", none)]) P.W hA P.f6 (by decide +kernel) rfl (fun pm cd doc vals hl => ?_) rfl fun A' L cl f cd hA' => ?_
  · match vals, hl with
    | [v1, v2], _ => rfl
  · refine WS_cons ?_
    refine W1_Swap (xs := ["left", "top"]) hA'.h ?_ (by rfl) (by first | kernel_rfl | rfl)
    walk_at "es"
    all_goals (refine fin_v (K := K) ?_ (by intro _ e; cases e))
    all_goals
      refine Eq.mp (congrArg (fun z => K z O) ?_) h
      show V.opt (if (decide (mnI (a + c) (e + g) ≤ mxI a e) || decide (mnI (b + d) (f' + h') ≤ mxI b f')) = true then none else some [mxI a e, mxI b f', mnI (a + c) (e + g) - mxI a e, mnI (b + d) (f' + h') - mxI b f']) = _
      first
        | (rw [if_pos (by rw [Bool.or_eq_true]; first | exact .inl ‹_› | exact .inr ‹_›)]; rfl)
        | (rw [if_neg (by rw [Bool.or_eq_true]; intro q; rcases q with q | q <;> first | exact absurd (q.symm.trans ‹decide (mnI (a + c) (e + g) ≤ mxI a e) = false›) (by decide) | exact absurd (q.symm.trans ‹decide (mnI (b + d) (f' + h') ≤ mxI b f') = false›) (by decide))]; rfl)
end

section
variable {prog : Program} {w : World} {B : Heap} {A : Around} {O : Store} {mg mb : Str → Option Value}
def boxP (p : List Int) (g : Int) : Option (List Int) := match p with
  | [a, b, c, d] => if (decide (c ≤ a) || decide (d ≤ b)) = true then none else some [a.fdiv g, b.fdiv g, -(-c).fdiv g - a.fdiv g, -(-d).fdiv g - b.fdiv g]
  | _ => none
theorem box_ok (P : Prg B mg mb) (hA : Room A 1) {a b c d g : Int} (hg : 0 < g) (hg' : g < 1000) {K : V → Store → Prop} (h : K (.opt (boxP [a, b, c, d] g)) O) : Ct prog w B mg A (stAt 11) [.tup [a, b, c, d], .int g] O K := by
  refine Ct_def (n := 0) (ps := ["box", "grain"]) (ls := ["left", "top", "right", "bottom"]) (ρ0 := [("box", some (.tup [a, b, c, d])), ("grain", some (.int g)), ("left", none), ("top", none), ("right", none), ("bottom", none)]) P.W hA P.f11 (by decide +kernel) rfl (fun pm cd doc vals hl => ?_) rfl fun A' L cl f cd hA' => ?_
  · match vals, hl with
    | [v1, v2], _ => rfl
  · refine WS_cons ?_
    walk_at "es"
    · refine W1_Swap (xs := ["left", "top"]) hA'.h ?_ (by rfl) (by first | kernel_rfl | rfl)
      walk_at "es"
      refine W1_Swap (xs := ["right", "bottom"]) hA'.h ?_ (by rfl) (by first | kernel_rfl | rfl)
      walk_at "es"
      refine fin_v (K := K) ?_ (by intro _ e; cases e)
      refine Eq.mp (congrArg (fun z => K z O) ?_) h
      show V.opt (if (decide (c ≤ a) || decide (d ≤ b)) = true then none else some _) = _
      rw [if_neg (by rw [Bool.or_eq_true]; intro q; rcases q with q | q <;> first | exact absurd (q.symm.trans ‹decide (c ≤ a) = false›) (by decide) | exact absurd (q.symm.trans ‹decide (d ≤ b) = false›) (by decide))]; rfl
    all_goals
      refine fin_v (K := K) ?_ (by intro _ e; cases e)
      refine Eq.mp (congrArg (fun z => K z O) ?_) h
      show V.opt (if (decide (c ≤ a) || decide (d ≤ b)) = true then none else some _) = _
      rw [if_pos (by rw [Bool.or_eq_true]; first | exact .inl ‹_› | exact .inr ‹_›)]; rfl
end

section
variable {prog : Program} {w : World} {B : Heap} {A : Around} {O : Store} {mg mb : Str → Option Value}
def bigP (ns : List Int) : Int := mxI (ns.headD 0) (-1 - ns.headD 0)
def poolP (ns : List Int) : List Int := [bigP ns * (if decide (1000000000000000000 ≤ bigP ns) = true then 1 else 0), (((bigP ns).fmod 2147483629 + 17) * 48271).fmod 2147483647]
theorem pool_ok (P : Prg B mg mb) (hA : Room A 1) {ns : List Int} (hz : ns.length ≤ 63) {K : V → Store → Prop} (h : K (.fresh ((poolP ns).map Sum.inl)) O) : Ct prog w B mg A (stAt 13) [.lst (ns.map Sum.inl)] O K := by
  refine Ct_def (n := 0) (ps := ["script"]) (ls := ["cell", "big"]) (ρ0 := [("script", some (.lst (ns.map Sum.inl))), ("cell", none), ("big", none)]) P.W hA P.f13 (by decide +kernel) rfl (fun pm cd doc vals hl => ?_) rfl fun A' L cl f cd hA' => ?_
  · match vals, hl with
    | [v1], _ => rfl
  · cases ns with
    | nil =>
      refine WS_cons ?_
      walk_at "es"
      refine CK_len .lst (by simp) ?_
      walk_at "es"
      all_goals first
        | (exfalso; revert hb; decide)
        | (refine fin_v (K := K) ?_ (by intro _ e; cases e); exact h)
    | cons n r =>
      refine WS_cons ?_
      walk_at "es"
      refine CK_len .lst (by simp at hz ⊢; omega) ?_
      walk_at "es"
      all_goals first
        | (refine fin_v (K := K) ?_ (by intro _ e; cases e); exact h)
        | (exfalso; have q := ‹decide (0 < (((n :: r).map Sum.inl : List It).length : Int)) = false›; simp at q; try omega)
end

section
variable {prog : Program} {w : World} {B : Heap} {A : Around} {O : Store} {mg mb : Str → Option Value}
/-- one draw: what is drawn, and what is left -/
def takeP (a b t : Int) : Int × Int × Int := if decide (0 < a) = true then (a.fmod t, a.fdiv t, b) else (((((b * 39373 + 7).fmod 2147483647).fdiv 32).fmod t), a, (b * 39373 + 7).fmod 2147483647)
theorem take_ok (P : Prg B mg mb) (hA : Room A 1) {k : Nat} {a b t : Int} (ho : O[k]? = some [.inl a, .inl b]) (ht : 0 < t) (ht' : t < 1000) {K : V → Store → Prop}
    (h : K (.int (takeP a b t).1) (O.set k [.inl (takeP a b t).2.1, .inl (takeP a b t).2.2])) : Ct prog w B mg A (stAt 14) [.own k, .int t] O K := by
  refine Ct_def (n := 0) (ps := ["source", "top"]) (ls := ["drawn"]) (ρ0 := [("source", some (.own k)), ("top", some (.int t)), ("drawn", none)]) P.W hA P.f14 (by decide +kernel) rfl (fun pm cd doc vals hl => ?_) rfl fun A' L cl f cd hA' => ?_
  · match vals, hl with
    | [v1, v2], _ => rfl
  · refine WS_cons ?_
    walk_at "es"
    all_goals
      refine fin_n (K := K) (by rw [List.length_set]) ?_ (by intro _ e; cases e)
      unfold takeP at h
      first
        | (rw [if_pos (by assumption)] at h; exact h)
        | (rw [if_neg (by rw [‹decide (0 < a) = false›]; decide)] at h; exact h)
end

section
variable {prog : Program} {w : World} {B : Heap} {A : Around} {O : Store} {mg mb : Str → Option Value}
theorem take_lt (a b : Int) {t : Int} (ht : 0 < t) : 0 ≤ (takeP a b t).1 ∧ (takeP a b t).1 < t := by
  unfold takeP
  split
  · exact ⟨Int.fmod_nonneg_of_pos _ ht, Int.fmod_lt_of_pos _ ht⟩
  · exact ⟨Int.fmod_nonneg_of_pos _ ht, Int.fmod_lt_of_pos _ ht⟩
/-- one of two ints -/
theorem one_ok (P : Prg B mg mb) (hA : Room A 2) {k : Nat} {a b x y : Int} (ho : O[k]? = some [.inl a, .inl b]) {K : V → Store → Prop}
    (h : K (.int (if (takeP a b 2).1 = 0 then x else y)) (O.set k [.inl (takeP a b 2).2.1, .inl (takeP a b 2).2.2])) : Ct prog w B mg A (stAt 15) [.own k, .fresh [.inl x, .inl y]] O K := by
  refine Ct_def (n := 1) (ps := ["source", "things"]) (ls := []) (ρ0 := [("source", some (.own k)), ("things", some (.lst [.inl x, .inl y]))]) P.W hA P.f15 (by decide +kernel) rfl (fun pm cd doc vals hl => ?_) rfl fun A' L cl f cd hA' => ?_
  · match vals, hl with
    | [v1, v2], _ => rfl
  · refine WS_cons ?_
    walk_at "es"
    refine CK_len .lst (by simp) ?_
    walk_at "es"
    show Ct _ _ _ _ _ _ [.own k, .int 2] _ _
    refine take_ok P hA' ho (by decide) (by decide) ?_
    obtain ⟨l1, l2⟩ := take_lt a b (t := 2) (by decide)
    by_cases hz : (takeP a b 2).1 = 0
    · rw [if_pos hz] at h
      refine ⟨0, .int x, by rw [hz], .lst .lst (by decide) (by decide) rfl, ?_⟩
      refine then_ret ?_
      exact fin_n (K := K) (by rw [List.length_set]) h (by intro _ e; cases e)
    · have h1 : (takeP a b 2).1 = 1 := by omega
      rw [if_neg hz] at h
      refine ⟨1, .int y, by rw [h1], .lst .lst (by decide) (by decide) rfl, ?_⟩
      refine then_ret ?_
      exact fin_n (K := K) (by rw [List.length_set]) h (by intro _ e; cases e)
end

section
variable {prog : Program} {w : World} {B : Heap} {A : Around} {O : Store} {mg mb : Str → Option Value}
def rangeN (a b : Int) : List Int := (List.range (Builtin.Range.rangeSize a b 1).toNat).map fun (i : Nat) => a + (i : Int) * 1
def dotsP (l t w h : Int) : List (List Int) := (rangeN t (t + h)).flatMap fun y => (rangeN l (l + w)).map fun x => [x, y]
def dotsO : Option (List Int) → List (List Int)
  | some [l, t, w, h] => dotsP l t w h
  | _ => []
theorem range_eq (a b : Int) : rangeL a 1 (Builtin.Range.rangeSize a b 1).toNat = (rangeN a b).map Sum.inl := by
  unfold rangeL rangeN
  rw [List.map_map]; rfl
theorem dots_none (P : Prg B mg mb) (hA : Room A 1) {K : V → Store → Prop} (h : K (.fresh []) O) : Ct prog w B mg A (stAt 16) [.none] O K := by
  refine Ct_def (n := 0) (ps := ["tile"]) (ls := ["left", "top", "width", "height"]) (ρ0 := [("tile", some .none), ("left", none), ("top", none), ("width", none), ("height", none)]) P.W hA P.f16 (by decide +kernel) rfl (fun pm cd doc vals hl => ?_) rfl fun A' L cl f cd hA' => ?_
  · match vals, hl with
    | [v1], _ => rfl
  · refine WS_cons ?_
    walk_at "es"
    refine fin_v (K := K) ?_ (by intro _ e; cases e)
    exact h
theorem dots_some (P : Prg B mg mb) (hA : Room A 1) {l t w' h' : Int} (hl : -1000 ≤ l ∧ l ≤ 1000) (ht : -1000 ≤ t ∧ t ≤ 1000) (hw : -1000 ≤ w' ∧ w' ≤ 1000) (hh : -1000 ≤ h' ∧ h' ≤ 1000) (hz : (dotsP l t w' h').length ≤ 100000) {K : V → Store → Prop} (h : K (.fresh ((dotsP l t w' h').map Sum.inr)) O) : Ct prog w B mg A (stAt 16) [.tup [l, t, w', h']] O K := by
  refine Ct_def (n := 0) (ps := ["tile"]) (ls := ["left", "top", "width", "height"]) (ρ0 := [("tile", some (.tup [l, t, w', h'])), ("left", none), ("top", none), ("width", none), ("height", none)]) P.W hA P.f16 (by decide +kernel) rfl (fun pm cd doc vals hl => ?_) rfl fun A' L cl f cd hA' => ?_
  · match vals, hl with
    | [v1], _ => rfl
  · refine WS_cons ?_
    walk_at "es"
    refine W1_Unpack (xs := ["left", "top", "width", "height"]) hA'.h (.cons (.cons (.cons (.cons .nil)))) ?_ (by rfl) (by first | kernel_rfl | rfl)
    walk_at "es"
    refine WE_comp ["y", "x"] [("left", .int l), ("width", .int w')] hA'.h (fits2 hA'.h) (by show compOk _ _ ["left", "width"] = true; decide +kernel) (CapsOk.all (.cons (by walk_at "mem") (by walk_at "kind") (.cons (by walk_at "mem") (by walk_at "kind") .nil))) ?_
    walk_at "en"
    refine x_range2 (a := t) (b := t + h') (by omega) (by omega) (by omega) (by omega) ?_
    rw [range_eq]
    intro C cl'
    refine cloop_ind mono2 (fun xs ρ' O' => ∃ ys acc o1 o2, xs = ys.map Sum.inl ∧ ρ' = ([("y", o1), ("x", o2), ("left", some (.int l)), ("width", some (.int w'))] : Rho) ∧ O' = O ++ [acc] ∧ acc ++ (ys.flatMap fun y => (rangeN l (l + w')).map fun x => [x, y]).map Sum.inr = (dotsP l t w' h').map Sum.inr)
      (fun ρ' O' hI => ?_) (fun x xs ρ' O' hI => ?_) ⟨rangeN t (t + h'), [], none, none, rfl, rfl, rfl, rfl⟩
    · obtain ⟨ys, acc, o1, o2, e1, rfl, rfl, e2⟩ := hI
      cases ys with
      | cons => cases e1
      | nil =>
        rw [getDA, takeA]
        refine then_ret ?_
        refine fin_v (K := K) ?_ (by intro _ e; cases e)
        rw [show acc = (dotsP l t w' h').map Sum.inr by simpa using e2]
        exact h
    · obtain ⟨ys, acc, o1, o2, e1, rfl, rfl, e2⟩ := hI
      cases ys with
      | nil => cases e1
      | cons y ys =>
        obtain ⟨rfl, rfl⟩ := List.cons.inj e1
        refine ⟨_, .name (by walk_at "kind") .here, ?_⟩
        unfold Bd2
        walk_at "en"
        refine x_range2 (a := l) (b := l + w') (by omega) (by omega) (by omega) (by omega) ?_
        rw [range_eq]
        refine cloop_ind mono0 (fun xs ρ' O' => ∃ zs acc' o2, xs = zs.map Sum.inl ∧ ρ' = ([("y", some (.int y)), ("x", o2), ("left", some (.int l)), ("width", some (.int w'))] : Rho) ∧ O' = O ++ [acc'] ∧
          acc' ++ (zs.map fun x => [x, y]).map Sum.inr = acc ++ ((rangeN l (l + w')).map fun x => [x, y]).map Sum.inr) (fun ρ' O' hI => ?_) (fun x xs ρ' O' hI => ?_) ⟨rangeN l (l + w'), acc, _, rfl, rfl, rfl, rfl⟩
        · obtain ⟨zs, acc', o2, e1, rfl, rfl, e3⟩ := hI
          cases zs with
          | cons => cases e1
          | nil =>
            refine ⟨ys, acc', _, _, rfl, rfl, rfl, ?_⟩
            rw [← e2, List.flatMap_cons, List.map_append, ← List.append_assoc, ← e3, List.map_nil, List.map_nil, List.append_nil]
        · obtain ⟨zs, acc', o2, e1, rfl, rfl, e3⟩ := hI
          cases zs with
          | nil => cases e1
          | cons z zs =>
            obtain ⟨rfl, rfl⟩ := List.cons.inj e1
            refine ⟨_, .name (by walk_at "kind") (.next .here), ?_⟩
            unfold Bd0
            walk_at "en"
            refine x_app getA ?_ ?_
            · have l2 := congrArg List.length e2
              have l3 := congrArg List.length e3
              simp only [List.length_append, List.length_map, List.flatMap_cons, List.length_cons] at l2 l3
              omega
            · rw [setA]
              refine ⟨zs, _, _, rfl, rfl, rfl, ?_⟩
              rw [← e3, List.map_cons, List.map_cons, List.append_assoc]; rfl
end

section
variable {prog : Program} {w : World} {B : Heap} {A : Around} {O : Store} {mg mb : Str → Option Value}
theorem dotsof_ok (P : Prg B mg mb) (hA : Room A 1) {ts : List (List Int)} (hr : ∀ q ∈ ts, RectOk q) (hz : ts.length ≤ 100000) {K : V → Store → Prop} (h : K (.int (ts.map areaP).sum) O) : Ct prog w B mg A (stAt 8) [.lst (ts.map Sum.inr)] O K := by
  refine Ct_def (n := 0) (ps := ["tiles"]) (ls := []) (ρ0 := [("tiles", some (.lst (ts.map Sum.inr)))]) P.W hA P.f8 (by decide +kernel) rfl (fun pm cd doc vals hl => ?_) rfl fun A' L cl f cd hA' => ?_
  · match vals, hl with
    | [v1], _ => rfl
  · refine WS_cons ?_
    walk_at "es"
    refine WE_comp ["left", "top", "width", "height"] [] hA'.h fits0 (by decide +kernel) (CapsOk.all .nil) ?_
    walk_at "es"
    refine ⟨_, .inl rfl, ?_⟩
    intro C cl'
    refine cloop_ind mono0 (fun xs ρ' O' => ∃ ys acc o1 o2 o3 o4, xs = ys.map Sum.inr ∧ ρ' = ([("left", o1), ("top", o2), ("width", o3), ("height", o4)] : Rho) ∧ O' = O ++ [acc] ∧ (∀ q ∈ ys, RectOk q) ∧ acc ++ (ys.map areaP).map Sum.inl = (ts.map areaP).map Sum.inl)
      (fun ρ' O' hI => ?_) (fun x xs ρ' O' hI => ?_) ⟨ts, [], none, none, none, none, rfl, rfl, rfl, hr, rfl⟩
    · obtain ⟨ys, acc, o1, o2, o3, o4, e1, rfl, rfl, _, e2⟩ := hI
      cases ys with
      | cons => cases e1
      | nil =>
        rw [getDA, takeA]
        walk_at "es"
        rw [show acc = (ts.map areaP).map Sum.inl by simpa using e2]
        refine CK_sum hA'.h .fresh ?_
        refine then_ret ?_
        refine fin_v (K := K) ?_ (by intro _ e; cases e)
        exact h
    · obtain ⟨ys, acc, o1, o2, o3, o4, e1, rfl, rfl, hq, e2⟩ := hI
      cases ys with
      | nil => cases e1
      | cons y ys =>
        obtain ⟨rfl, rfl⟩ := List.cons.inj e1
        obtain ⟨a, b, c, d, rfl, ha, hb, hc, hd⟩ := hq y (.head _)
        refine ⟨_, .tup (xs := ["left", "top", "width", "height"]) (.cons (.cons (.cons (.cons .nil)))) (fun z hz => ?_) rfl (.cons .here (.cons (.next .here) (.cons (.next (.next .here)) (.cons (.next (.next (.next .here))) .nil)))), ?_⟩
        · simp only [List.mem_cons, List.not_mem_nil, or_false] at hz
          rcases hz with rfl | rfl | rfl | rfl <;> walk_at "kind"
        unfold Bd0
        walk_at "en"
        refine x_app getA ?_ ?_
        · have l2 := congrArg List.length e2
          simp only [List.length_append, List.length_map, List.length_cons] at l2
          omega
        · rw [setA]
          refine ⟨ys, _, _, _, _, _, rfl, rfl, rfl, fun q hq' => hq q (.tail _ hq'), ?_⟩
          rw [← e2, List.map_cons, List.map_cons, List.append_assoc]; rfl
end

section
variable {prog : Program} {w : World} {B : Heap} {A : Around} {O : Store} {mg mb : Str → Option Value}
theorem at_ok (P : Prg B mg mb) (hA : Room A 2) {ts : List (List Int)} (hr : ∀ q ∈ ts, RectOk q) {x y : Int} {K : V → Store → Prop} (h : K (.opt (ts.find? fun q => holdsB q x y)) O) : Ct prog w B mg A (stAt 10) [.lst (ts.map Sum.inr), .int x, .int y] O K := by
  refine Ct_def (n := 1) (ps := ["tiles", "x", "y"]) (ls := ["tile"]) (ρ0 := [("tiles", some (.lst (ts.map Sum.inr))), ("x", some (.int x)), ("y", some (.int y)), ("tile", none)]) P.W hA P.f10 (by decide +kernel) rfl (fun pm cd doc vals hl => ?_) rfl fun A' L cl f cd hA' => ?_
  · match vals, hl with
    | [v1, v2, v3], _ => rfl
  · refine WS_cons ?_
    walk_at "es"
    refine W1_For ?_
    walk_at "es"
    refine ⟨_, .inl rfl, ?_⟩
    refine forK_ind (fun xs ρ' O' => ∃ ys o1, xs = ys.map Sum.inr ∧ ρ' = ([("tiles", some (.lst (ts.map Sum.inr))), ("x", some (.int x)), ("y", some (.int y)), ("tile", o1)] : Rho) ∧ O' = O ∧ (∀ q ∈ ys, RectOk q) ∧ ys.find? (fun q => holdsB q x y) = ts.find? fun q => holdsB q x y)
      (fun ρ' O' hI => ?_) (fun z xs ρ' O' hI => ?_) ⟨ts, none, rfl, rfl, rfl, hr, rfl⟩
    · obtain ⟨ys, o1, e1, rfl, rfl, _, e2⟩ := hI
      cases ys with
      | cons => cases e1
      | nil =>
        refine then_next ?_
        walk_at "es"
        refine fin_v (K := K) ?_ (by intro _ e; cases e)
        rw [← e2] at h
        exact h
    · obtain ⟨ys, o1, e1, rfl, rfl, hq, e2⟩ := hI
      cases ys with
      | nil => cases e1
      | cons q ys =>
        obtain ⟨rfl, rfl⟩ := List.cons.inj e1
        obtain ⟨a, b, c, d, rfl, ha, hb, hc, hd⟩ := hq q (.head _)
        walk_at "es"
        refine holds_ok P hA' ?_
        walk_at "es"
        · rw [← e2, List.find?_cons, ‹holdsB [a, b, c, d] x y = true›] at h
          refine fin_v (K := K) ?_ (by intro _ e; cases e)
          exact h
        · refine ⟨ys, _, rfl, rfl, rfl, fun q hq' => hq q (.tail _ hq'), ?_⟩
          rw [← e2, List.find?_cons, ‹holdsB [a, b, c, d] x y = false›]
end

section
variable {prog : Program} {w : World} {B : Heap} {A : Around} {O : Store} {mg mb : Str → Option Value}
def clearP : List (List Int) → List (List Int) → Bool
  | _, [] => true
  | pre, q :: r => if (pre.any fun o => (commonP q o).isSome) = true then false else clearP (pre ++ [q]) r
theorem clear_ok (P : Prg B mg mb) (hA : Room A 2) {ts : List (List Int)} (hr : ∀ q ∈ ts, RectOk q) (hz : ts.length ≤ 100000) {K : V → Store → Prop} (h : K (.bool (clearP [] ts)) O) : Ct prog w B mg A (stAt 7) [.lst (ts.map Sum.inr)] O K := by
  refine Ct_def (n := 1) (ps := ["tiles"]) (ls := ["at", "one", "other"]) (ρ0 := [("tiles", some (.lst (ts.map Sum.inr))), ("at", none), ("one", none), ("other", none)]) P.W hA P.f7 (by decide +kernel) rfl (fun pm cd doc vals hl => ?_) rfl fun A' L cl f cd hA' => ?_
  · match vals, hl with
    | [v1], _ => rfl
  · refine WS_cons ?_
    refine W1_ForEnum P.W hA'.h (by walk_at "kind") ?_
    walk_at "es"
    refine ⟨_, .inl rfl, ?_⟩
    refine forE_ind (fun i xs ρ' O' => ∃ pre ys o1 o2 o3, xs = ys.map Sum.inr ∧ ρ' = ([("tiles", some (.lst (ts.map Sum.inr))), ("at", o1), ("one", o2), ("other", o3)] : Rho) ∧ O = O' ∧ ts = pre ++ ys ∧ i = pre.length ∧ clearP pre ys = clearP [] ts)
      (fun i ρ' O' hI => ?_) (fun i z xs ρ' O' hI => ?_) ⟨[], ts, none, none, none, rfl, rfl, rfl, rfl, rfl, rfl⟩
    · obtain ⟨pre, ys, o1, o2, o3, e1, rfl, rfl, e2, e3, e4⟩ := hI
      cases ys with
      | cons => cases e1
      | nil =>
        refine then_next ?_
        walk_at "es"
        refine fin_v (K := K) ?_ (by intro _ e; cases e)
        rw [← e4] at h
        exact h
    · obtain ⟨pre, ys, o1, o2, o3, e1, rfl, rfl, e2, rfl, e4⟩ := hI
      cases ys with
      | nil => cases e1
      | cons q ys =>
        obtain ⟨rfl, rfl⟩ := List.cons.inj e1
        obtain ⟨a, b, c, d, rfl, ha, hb, hc, hd⟩ := hr q (by rw [e2]; simp)
        refine ⟨_, .cons (.next .here) (.cons (.next (.next .here)) .nil), ?_⟩
        walk_at "es"
        refine W1_For ?_
        walk_at "es"
        refine ⟨_, _, .lst, rfl, by simp; omega, ?_⟩
        refine ⟨_, .inr rfl, ?_⟩
        rw [show (ts.map Sum.inr : List It).take pre.length = pre.map Sum.inr by rw [← List.map_take, e2, List.take_left]]
        refine forK_ind (fun xs ρ' O' => ∃ zs o3, xs = zs.map Sum.inr ∧ ρ' = ([("tiles", some (.lst (ts.map Sum.inr))), ("at", some (.int (pre.length : Int))), ("one", some (.tup [a, b, c, d])), ("other", o3)] : Rho) ∧ O = O' ∧ (∀ q ∈ zs, RectOk q) ∧ (zs.any fun o => (commonP [a, b, c, d] o).isSome) = pre.any fun o => (commonP [a, b, c, d] o).isSome)
          (fun ρ' O' hI => ?_) (fun x xs ρ' O' hI => ?_) ⟨pre, o3, rfl, rfl, rfl, fun q hq => hr q (by rw [e2]; exact List.mem_append_left _ hq), rfl⟩
        · obtain ⟨zs, o3, e5, rfl, rfl, hq, e6⟩ := hI
          cases zs with
          | cons => cases e5
          | nil =>
            refine then_next ?_
            walk_at "es"
            refine ⟨pre ++ [[a, b, c, d]], ys, _, _, _, rfl, rfl, rfl, by rw [e2]; simp, by simp, ?_⟩
            rw [← e4]
            show _ = clearP pre ([a, b, c, d] :: ys)
            unfold clearP
            rw [← e6, if_neg (by simp)]
            cases ys <;> rfl
        · obtain ⟨zs, o3, e5, rfl, rfl, hq, e6⟩ := hI
          cases zs with
          | nil => cases e5
          | cons q2 zs =>
            obtain ⟨rfl, rfl⟩ := List.cons.inj e5
            obtain ⟨a2, b2, c2, d2, rfl, ha2, hb2, hc2, hd2⟩ := hq q2 (.head _)
            walk_at "es"
            refine common_ok P hA' ?_
            walk_at "es"
            · have e7 : clearP [] ts = false := by
                rw [← e4]
                unfold clearP
                rw [← e6, List.any_cons, ‹(commonP [a, b, c, d] [a2, b2, c2, d2]).isSome = true›, Bool.true_or, if_pos rfl]
              rw [e7] at h
              refine fin_v (K := K) ?_ (by intro _ e; cases e)
              exact h
            · refine ⟨zs, _, rfl, rfl, rfl, fun q hq' => hq q (.tail _ hq'), ?_⟩
              rw [← e6, List.any_cons, ‹(commonP [a, b, c, d] [a2, b2, c2, d2]).isSome = false›, Bool.false_or]
end

section
variable {prog : Program} {w : World} {B : Heap} {A : Around} {O : Store} {mg mb : Str → Option Value}
def dotsQ (q : List Int) : List (List Int) := dotsO (some q)
theorem dotsP_ne {l t w h : Int} : ∀ x ∈ dotsP l t w h, x ≠ [] := by
  intro x hx
  unfold dotsP at hx
  obtain ⟨y, _, hx⟩ := List.mem_flatMap.mp hx
  obtain ⟨z, _, rfl⟩ := List.mem_map.mp hx
  simp
theorem dotsQ_ne (q : List Int) : ∀ x ∈ dotsQ q, x ≠ [] := by
  unfold dotsQ dotsO
  split
  · exact dotsP_ne
  · intro x hx; cases hx
theorem once_ok (P : Prg B mg mb) (hA : Room A 3) {ts ds fs : List (List Int)} (hr : ∀ q ∈ ts, RectOk q) (hz : ts.length ≤ 100000) (hf : sortT (ts.flatMap dotsQ) = some fs) (hd : sortT ds = some fs) (hfz : (ts.flatMap dotsQ).length < 64) (hdz : ds.length < 64)
    (hne : ∀ x ∈ ds, x ≠ []) (hc : clearP [] ts = true) (ha : (ts.map areaP).sum = (ds.length : Int)) {vt vd : V} (ht : vt.hold = .lst (ts.map Sum.inr)) (hvd : vd.hold = .lst (ds.map Sum.inr)) {K : V → Store → Prop} (h : K (.bool true) O) :
    Ct prog w B mg A (stAt 17) [vt, vd] O K := by
  refine Ct_def (n := 2) (ps := ["tiles", "dots"]) (ls := ["found", "tile"]) (ρ0 := [("tiles", some (.lst (ts.map Sum.inr))), ("dots", some (.lst (ds.map Sum.inr))), ("found", none), ("tile", none)]) P.W hA P.f17 (by decide +kernel) rfl (fun pm cd doc vals hl => ?_) (by unfold rho0; simp only [List.zip_cons_cons, List.zip_nil_right, List.map_cons, List.map_nil, ht, hvd]; rfl) fun A' L cl f cd hA' => ?_
  · match vals, hl with
    | [v1, v2], _ => rfl
  · refine WS_cons ?_
    walk_at "es"
    refine W1_For ?_
    walk_at "es"
    refine ⟨_, .inl rfl, ?_⟩
    refine forK_ind (fun xs ρ' O' => ∃ ys acc o1, xs = ys.map Sum.inr ∧ ρ' = ([("tiles", some (.lst (ts.map Sum.inr))), ("dots", some (.lst (ds.map Sum.inr))), ("found", some (.lst (acc.map Sum.inr))), ("tile", o1)] : Rho) ∧ O = O' ∧ (∀ q ∈ ys, RectOk q) ∧ acc ++ ys.flatMap dotsQ = ts.flatMap dotsQ)
      (fun ρ' O' hI => ?_) (fun x xs ρ' O' hI => ?_) ⟨ts, [], none, rfl, rfl, rfl, hr, rfl⟩
    · obtain ⟨ys, acc, o1, e1, rfl, rfl, _, e2⟩ := hI
      cases ys with
      | cons => cases e1
      | nil =>
        have e3 : acc = ts.flatMap dotsQ := by simpa using e2
        subst e3
        refine then_next ?_
        walk_at "es"
        refine CK_sorted .lst (fun x hx => by obtain ⟨q, _, hx⟩ := List.mem_flatMap.mp hx; exact dotsQ_ne q x hx) hfz hf ?_
        walk_at "es"
        refine CK_sorted .lst hne hdz hd ?_
        walk_at "es"
        · refine clear_ok P (hA'.less (by decide)) hr hz ?_
          walk_at "es"
          · refine dotsof_ok P (hA'.less (by decide)) hr hz ?_
            walk_at "es"
            refine CK_len .lst (by simp; omega) ?_
            walk_at "es"
            refine fin_v (K := K) ?_ (by intro _ e; cases e)
            have e : ((ts.map areaP).sum == ((ds.map Sum.inr : List It).length : Int)) = true := by
              rw [List.length_map, ha]; simp
            rw [e]; exact h
          · exact absurd (hc.symm.trans ‹clearP [] ts = false›) (by decide)
        · exact absurd (‹decide (fs.map Sum.inr = (fs.map Sum.inr : List It)) = false›) (by simp)
    · obtain ⟨ys, acc, o1, e1, rfl, rfl, hq, e2⟩ := hI
      cases ys with
      | nil => cases e1
      | cons q ys =>
        obtain ⟨rfl, rfl⟩ := List.cons.inj e1
        obtain ⟨a, b, c, d, rfl, hb1, hb2, hb3, hb4⟩ := hq q (.head _)
        have l2 := congrArg List.length e2
        simp only [List.length_append, List.flatMap_cons] at l2
        have l3 : (dotsQ [a, b, c, d]).length = (dotsP a b c d).length := rfl
        walk_at "es"
        refine dots_some P (hA'.less (by decide)) hb1 hb2 hb3 hb4 (by omega) ?_
        refine Op_add_lst .lst .fresh (by simp; omega) ?_
        rw [← List.map_append]
        walk_at "es"
        refine ⟨ys, _, _, rfl, rfl, rfl, fun q hq' => hq q (.tail _ hq'), ?_⟩
        rw [← e2, List.flatMap_cons, List.append_assoc]; rfl
end

section
variable {prog : Program} {w : World} {B : Heap} {A : Around} {env : Env} {ρ : Rho} {O : Store}
theorem whK_ind {t : Expr} {body : List Stmt} {K : Fl → Rho → Store → Prop} (I : Nat → Rho → Store → Prop) (h0 : ∀ ρ O, ¬ I 0 ρ O)
    (hs : ∀ n ρ O, I (n + 1) ρ O → WT prog w B A env t ρ O (fun b O₁ => (b = true → WS prog w B A env body ρ O₁ (Then (I n) K)) ∧ (b = false → K .next ρ O₁))) : ∀ {n : Nat} {ρ : Rho} {O : Store}, I n ρ O → WhK prog w B A env t body K n ρ O
  | 0, ρ, O, h => (h0 _ _ h).elim
  | n + 1, ρ, O, h => (hs n ρ O h).mono fun b O₁ ⟨x, y⟩ => ⟨fun e => (x e).mono (then_mono fun ρ O i => whK_ind I h0 hs i), y⟩
variable {F F' S S' : List It}
theorem getF : (O ++ [F] ++ [S])[O.length]? = some F := by simp
theorem getS : (O ++ [F] ++ [S])[O.length + 1]? = some S := by
  rw [List.getElem?_append_right (by simp)]
  simp
theorem setF : (O ++ [F] ++ [S]).set O.length F' = O ++ [F'] ++ [S] := by simp
theorem setS : (O ++ [F] ++ [S]).set (O.length + 1) S' = O ++ [F] ++ [S'] := by
  rw [List.set_append_right _ _ (by simp)]
  simp
theorem fin_two {K : V → Store → Prop} (h : K (.fresh F) O) : K (retF O.length (O ++ [F] ++ [S]) (.ret (.own O.length))) ((O ++ [F] ++ [S]).take O.length) := by
  have e1 : (O ++ [F] ++ [S]).take O.length = O := by rw [List.append_assoc, List.take_left]
  have e : retF O.length (O ++ [F] ++ [S]) (.ret (.own O.length)) = .fresh F := by
    show retV _ _ (V.own _) = _
    unfold retV
    simp [List.getD]
  rw [e1, e]; exact h
end
theorem half_ok {w : Int} (h : 0 ≤ w ∧ w ≤ 1000) : (0 ≤ w.fdiv 2 ∧ w.fdiv 2 ≤ 1000) ∧ (0 ≤ w - w.fdiv 2 ∧ w - w.fdiv 2 ≤ 1000) := by
  rw [Int.fdiv_eq_ediv_of_nonneg _ (by decide)]
  omega

section
variable {prog : Program} {w : World} {B : Heap} {A : Around} {O : Store} {mg mb : Str → Option Value}
def stepsN (h s : Int) : List Int := (List.range (Builtin.Range.rangeSize 0 h s).toNat).map fun (i : Nat) => 0 + (i : Int) * s
def tilesP (w h s : Int) : List (List Int) := (stepsN h s).flatMap fun y => (stepsN w s).map fun x => [x, y, mnI s (w - x), mnI s (h - y)]
theorem steps_eq (h s : Int) : rangeL 0 s (Builtin.Range.rangeSize 0 h s).toNat = (stepsN h s).map Sum.inl := by
  unfold rangeL stepsN
  rw [List.map_map]; rfl
theorem tiles_ok (P : Prg B mg mb) (hA : Room A 1) {w' h' s : Int} (hw : 0 ≤ w' ∧ w' ≤ 100) (hh : 0 ≤ h' ∧ h' ≤ 100) (hs : 1 ≤ s ∧ s ≤ 100) (hz : (tilesP w' h' s).length ≤ 100000) {K : V → Store → Prop} (h : K (.fresh ((tilesP w' h' s).map Sum.inr)) O) : Ct prog w B mg A (stAt 4) [.int w', .int h', .int s] O K := by
  refine Ct_def (n := 0) (ps := ["width", "height", "size"]) (ls := ["found", "top", "left"]) (ρ0 := [("width", some (.int w')), ("height", some (.int h')), ("size", some (.int s)), ("found", none), ("top", none), ("left", none)]) P.W hA P.f4 (by decide +kernel) rfl (fun pm cd doc vals hl => ?_) rfl fun A' L cl f cd hA' => ?_
  · match vals, hl with
    | [v1, v2, v3], _ => rfl
  · refine WS_cons ?_
    walk_at "en"
    all_goals try (exfalso; simp only [decide_eq_true_eq, decide_eq_false_iff_not] at *; omega)
    refine W1_Own ?_
    walk_at "en"
    refine W1_For ?_
    walk_at "en"
    refine x_range3 (a := 0) (b := h') (c := s) (by omega) (by omega) (by omega) (by omega) (by omega) (by omega) ?_
    rw [steps_eq]
    refine forK_ind (fun xs ρ' O' => ∃ ys acc o1 o2, xs = ys.map Sum.inl ∧ ρ' = ([("width", some (.int w')), ("height", some (.int h')), ("size", some (.int s)), ("found", some (.own O.length)), ("top", o1), ("left", o2)] : Rho) ∧ O' = O ++ [acc] ∧ acc ++ (ys.flatMap fun y => (stepsN w' s).map fun x => [x, y, mnI s (w' - x), mnI s (h' - y)]).map Sum.inr = (tilesP w' h' s).map Sum.inr) (fun ρ' O' hI => ?_) (fun x xs ρ' O' hI => ?_) ⟨stepsN h' s, [], none, none, rfl, rfl, rfl, rfl⟩
    · obtain ⟨ys, acc, o1, o2, e1, rfl, rfl, e2⟩ := hI
      cases ys with
      | cons => cases e1
      | nil =>
        refine then_next ?_
        walk_at "en"
        refine fin_own (K := K) ?_
        rw [show acc = (tilesP w' h' s).map Sum.inr by simpa using e2]
        exact h
    · obtain ⟨ys, acc, o1, o2, e1, rfl, rfl, e2⟩ := hI
      cases ys with
      | nil => cases e1
      | cons y ys =>
        obtain ⟨rfl, rfl⟩ := List.cons.inj e1
        walk_at "en"
        refine W1_For ?_
        walk_at "en"
        refine x_range3 (a := 0) (b := w') (c := s) (by omega) (by omega) (by omega) (by omega) (by omega) (by omega) ?_
        rw [steps_eq]
        refine forK_ind (fun xs ρ' O' => ∃ zs acc' o2, xs = zs.map Sum.inl ∧ ρ' = ([("width", some (.int w')), ("height", some (.int h')), ("size", some (.int s)), ("found", some (.own O.length)), ("top", some (.int y)), ("left", o2)] : Rho) ∧ O' = O ++ [acc'] ∧
          acc' ++ (zs.map fun x => [x, y, mnI s (w' - x), mnI s (h' - y)]).map Sum.inr = acc ++ ((stepsN w' s).map fun x => [x, y, mnI s (w' - x), mnI s (h' - y)]).map Sum.inr) (fun ρ' O' hI => ?_) (fun x xs ρ' O' hI => ?_) ⟨stepsN w' s, acc, _, rfl, rfl, rfl, rfl⟩
        · obtain ⟨zs, acc', o2, e1, rfl, rfl, e3⟩ := hI
          cases zs with
          | cons => cases e1
          | nil =>
            refine then_next ?_
            walk_at "en"
            refine ⟨ys, acc', _, _, rfl, rfl, rfl, ?_⟩
            rw [← e2, List.flatMap_cons, List.map_append, ← List.append_assoc, ← e3, List.map_nil, List.map_nil, List.append_nil]
        · obtain ⟨zs, acc', o2, e1, rfl, rfl, e3⟩ := hI
          cases zs with
          | nil => cases e1
          | cons z zs =>
            obtain ⟨rfl, rfl⟩ := List.cons.inj e1
            walk_at "en"
            refine W1_append (k := O.length) (by walk_at "mem") ?_
            walk_at "en"
            refine x_app getA ?_ ?_
            · have l2 := congrArg List.length e2
              have l3 := congrArg List.length e3
              simp only [List.length_append, List.length_map, List.flatMap_cons, List.length_cons] at l2 l3
              omega
            · rw [setA]
              walk_at "en"
              refine ⟨zs, _, _, rfl, rfl, rfl, ?_⟩
              rw [← e3, List.map_cons, List.map_cons, List.append_assoc]; rfl
end

section
variable {prog : Program} {w : World} {B : Heap} {A : Around} {O : Store} {mg mb : Str → Option Value}
def halvesRun : Nat → Int → List (List Int) → List (List Int) → Option (List (List Int))
  | 0, _, _, _ => none
  | _ + 1, _, found, [] => some found
  | n + 1, most, found, [x, y, w, h] :: r =>
    if (decide (w * h ≤ most) || (w * h == 0)) = true then halvesRun n most (found ++ [[x, y, w, h]]) r
    else if decide (h ≤ w) = true then halvesRun n most found ([x, y, w.fdiv 2, h] :: [x + w.fdiv 2, y, w - w.fdiv 2, h] :: r)
    else halvesRun n most found ([x, y, w, h.fdiv 2] :: [x, y + h.fdiv 2, w, h - h.fdiv 2] :: r)
  | _ + 1, _, _, _ => none
def SideOk (q : List Int) : Prop := ∃ a b c d, q = [a, b, c, d] ∧ (0 ≤ c ∧ c ≤ 1000) ∧ (0 ≤ d ∧ d ≤ 1000)
theorem halves_ok (P : Prg B mg mb) (hA : Room A 1) {a b c d most : Int} {n : Nat} {ps : List (List Int)} (hm : 1 ≤ most) (hc : 0 ≤ c ∧ c ≤ 1000) (hd : 0 ≤ d ∧ d ≤ 1000) (hn : n ≤ 10000) (hr : halvesRun n most [] [[a, b, c, d]] = some ps) {K : V → Store → Prop} (h : K (.fresh (ps.map Sum.inr)) O) :
    Ct prog w B mg A (stAt 5) [.tup [a, b, c, d], .int most] O K := by
  refine Ct_def (n := 0) (ps := ["tile", "most"]) (ls := ["found", "left", "x", "y", "width", "height", "half"]) (ρ0 := [("tile", some (.tup [a, b, c, d])), ("most", some (.int most)), ("found", none), ("left", none), ("x", none), ("y", none), ("width", none), ("height", none), ("half", none)]) P.W hA P.f5 (by decide +kernel) rfl (fun pm cd doc vals hl => ?_) rfl fun A' L cl f cd hA' => ?_
  · match vals, hl with
    | [v1, v2], _ => rfl
  · refine WS_cons ?_
    walk_at "en"
    all_goals try (exfalso; simp only [decide_eq_true_eq, decide_eq_false_iff_not] at *; omega)
    refine W1_TwoOwn (x := "found") (y := "left") hA'.h ?_ (by rfl) (by first | kernel_rfl | rfl)
    walk_at "en"
    refine ⟨_, _, _, rfl, .cons (.next (.next (.next .here))) (.cons (.next (.next .here)) .nil), ?_⟩
    walk_at "en"
    refine W1_While (n := n) ?_
    refine whK_ind (fun m ρ' O' => ∃ found stack o1 o2 o3 o4 o5, ρ' = ([("tile", some (.tup [a, b, c, d])), ("most", some (.int most)), ("found", some (.own O.length)), ("left", some (.own (O.length + 1))), ("x", o1), ("y", o2), ("width", o3), ("height", o4), ("half", o5)] : Rho) ∧ O' = O ++ [found.map Sum.inr] ++ [stack.reverse.map Sum.inr] ∧
      halvesRun m most found stack = some ps ∧ (∀ q ∈ stack, SideOk q) ∧ found.length + stack.length + m ≤ 20000) (fun ρ' O' hI => ?_) (fun m ρ' O' hI => ?_) ⟨[], [[a, b, c, d]], none, none, none, none, none, rfl, rfl, hr, fun q hq => ⟨a, b, c, d, by simpa using hq, hc, hd⟩, by simp; omega⟩
    · obtain ⟨found, stack, o1, o2, o3, o4, o5, rfl, rfl, e, _⟩ := hI
      simp [halvesRun] at e
    · obtain ⟨found, stack, o1, o2, o3, o4, o5, rfl, rfl, e, hs, hz⟩ := hI
      walk_at "en"
      refine Op_ne_lst hA'.room (.own getS) .fresh ?_
      walk_at "en"
      · cases stack with
        | nil => exact absurd ‹(!decide ((([] : List (List Int)).reverse.map Sum.inr : List It) = [])) = true› (by simp)
        | cons q r =>
          obtain ⟨x, y, w', h', rfl, hw, hh⟩ := hs q (.head _)
          have hs' : ∀ q ∈ r, SideOk q := fun q hq => hs q (.tail _ hq)
          rw [List.length_cons] at hz
          refine W1_Unpack (xs := ["x", "y", "width", "height"]) hA'.h (.cons (.cons (.cons (.cons .nil)))) ?_ (by rfl) (by first | kernel_rfl | rfl)
          refine WE_pop (k := O.length + 1) (xs := r.reverse.map Sum.inr) (y := .inr [x, y, w', h']) (by walk_at "mem") (by rw [getS, List.reverse_cons, List.map_append]; rfl) (by simp; omega) ?_
          rw [setS]
          walk_at "es"
          · refine W1_append (k := O.length + 1) (by walk_at "mem") ?_
            walk_at "en"
            refine x_app getS (by simp; omega) ?_
            rw [setS]
            walk_at "en"
            refine W1_append (k := O.length + 1) (by walk_at "mem") ?_
            walk_at "en"
            refine x_app getS (by simp; omega) ?_
            rw [setS]
            walk_at "en"
            rw [halvesRun, if_neg (by rw [‹decide (w' * h' ≤ most) = false›, ‹(w' * h' == 0) = false›]; decide), if_pos (by assumption)] at e
            refine ⟨found, _, _, _, _, _, _, rfl, ?_, e, fun q hq => ?_, by simp only [List.length_cons]; omega⟩
            · simp only [List.reverse_cons, List.map_append, List.map_cons, List.map_nil]
            · rcases List.mem_cons.mp hq with rfl | hq
              · exact ⟨_, _, _, _, rfl, (half_ok hw).1, hh⟩
              · rcases List.mem_cons.mp hq with rfl | hq
                · exact ⟨_, _, _, _, rfl, (half_ok hw).2, hh⟩
                · exact hs' q hq
          · refine W1_append (k := O.length + 1) (by walk_at "mem") ?_
            walk_at "en"
            refine x_app getS (by simp; omega) ?_
            rw [setS]
            walk_at "en"
            refine W1_append (k := O.length + 1) (by walk_at "mem") ?_
            walk_at "en"
            refine x_app getS (by simp; omega) ?_
            rw [setS]
            walk_at "en"
            rw [halvesRun, if_neg (by rw [‹decide (w' * h' ≤ most) = false›, ‹(w' * h' == 0) = false›]; decide), if_neg (by rw [‹decide (h' ≤ w') = false›]; decide)] at e
            refine ⟨found, _, _, _, _, _, _, rfl, ?_, e, fun q hq => ?_, by simp only [List.length_cons]; omega⟩
            · simp only [List.reverse_cons, List.map_append, List.map_cons, List.map_nil]
            · rcases List.mem_cons.mp hq with rfl | hq
              · exact ⟨_, _, _, _, rfl, hw, (half_ok hh).1⟩
              · rcases List.mem_cons.mp hq with rfl | hq
                · exact ⟨_, _, _, _, rfl, hw, (half_ok hh).2⟩
                · exact hs' q hq
          · refine W1_append (k := O.length) (by walk_at "mem") ?_
            walk_at "en"
            refine x_app getF (by simp; omega) ?_
            rw [setF]
            walk_at "en"
            rw [halvesRun, if_pos (by rw [Bool.or_eq_true]; first | exact .inl ‹_› | exact .inr ‹_›)] at e
            exact ⟨found ++ [[x, y, w', h']], r, _, _, _, _, _, rfl, by simp only [List.map_append, List.map_cons, List.map_nil], e, hs', by simp only [List.length_append, List.length_cons, List.length_nil]; omega⟩
          · refine W1_append (k := O.length) (by walk_at "mem") ?_
            walk_at "en"
            refine x_app getF (by simp; omega) ?_
            rw [setF]
            walk_at "en"
            rw [halvesRun, if_pos (by rw [Bool.or_eq_true]; first | exact .inl ‹_› | exact .inr ‹_›)] at e
            exact ⟨found ++ [[x, y, w', h']], r, _, _, _, _, _, rfl, by simp only [List.map_append, List.map_cons, List.map_nil], e, hs', by simp only [List.length_append, List.length_cons, List.length_nil]; omega⟩
      · cases stack with
        | cons q r => exact absurd ‹(!decide (((q :: r).reverse.map Sum.inr : List It) = [])) = false› (by simp)
        | nil =>
          have e' : found = ps := by simpa [halvesRun] using e
          subst e'
          walk_at "en"
          exact fin_two (K := K) h
end

def dropL {α : Type} : Nat → List α → List α
  | 0, l => l
  | _ + 1, [] => []
  | n + 1, _ :: r => dropL n r
/-- the law answers True -/
def TT : Fl → Rho → Store → Prop := fun fl _ _ => fl = .ret (.bool true)
abbrev lawEnv (L : Addr) (cl : List (Str × Addr)) (f : Addr) (cd : Value) : Env := newEnv (fnScope (stAt 18)) L mainGlobals cl (fnName (stAt 18) ++ ".<locals>.") (some f) cd none builtinsNs
abbrev lawRest (n : Nat) : List Stmt := dropL n (fnBody (stAt 18))
theorem tt_true {ρ : Rho} {O : Store} {b : Bool} (h : b = true) : TT (.ret (.bool b)) ρ O := by subst h; rfl

/-- the dots of a picture, in the order of sorted -/
def sortedDots (w h : Nat) : List (List Int) := (List.range w).flatMap fun (x : Nat) => (List.range h).map fun (y : Nat) => [(x : Int), (y : Int)]
def small4 (q : List Int) : Bool := match q with
  | [a, b, c, d] => decide (-1000 ≤ a) && decide (a ≤ 1000) && decide (-1000 ≤ b) && decide (b ≤ 1000) && decide (-1000 ≤ c) && decide (c ≤ 1000) && decide (-1000 ≤ d) && decide (d ≤ 1000)
  | _ => false
theorem rectOk_of {q : List Int} (h : small4 q = true) : RectOk q := by
  unfold small4 at h
  split at h
  · simp only [Bool.and_eq_true, decide_eq_true_eq] at h
    exact ⟨_, _, _, _, rfl, by omega, by omega, by omega, by omega⟩
  · cases h
/-- rectangles that cover a picture just once -/
def coverB (w h : Nat) (ts : List (List Int)) : Bool :=
  ts.all small4 && (decide (ts.flatMap dotsQ = dotsP 0 0 w h) || decide (sortT (ts.flatMap dotsQ) = some (sortedDots w h))) && clearP [] ts && decide ((ts.map areaP).sum = ((w * h : Nat) : Int)) && decide ((ts.flatMap dotsQ).length < 64) && decide (ts.length < 64)
def wideB (s : Int) (q : List Int) : Bool := match q with
  | [_, _, c, d] => decide (s < c) || decide (s < d)
  | _ => true
def tileB (w h s : Nat) : Bool := coverB w h (tilesP w h s) && !(tilesP w h s).any (wideB s)
def dotsB (w h : Nat) : Bool := decide (sortT (dotsP 0 0 w h) = some (sortedDots w h)) && decide ((dotsP 0 0 w h).length = w * h)
def sideB (q : List Int) : Bool := match q with
  | [_, _, c, _] => decide (0 < c)
  | _ => false
def bigB (m : Int) (q : List Int) : Bool := match q with
  | [_, _, c, d] => decide (m < c * d)
  | _ => true
def pieceB (w h m : Nat) : Bool := match halvesRun 60 m [] [[0, 0, w, h]] with
  | some ps => decide (ps.length < 64) && ps.all small4 && coverB w h (ps.filter sideB) && !ps.any (bigB m)
  | none => false
theorem dots1 : ∀ w ∈ [1, 2, 3], ∀ h ∈ [1, 2, 3, 4, 5], dotsB w h = true := by decide +kernel
theorem dots4 : ∀ h ∈ [1, 2, 3, 4, 5], dotsB 4 h = true := by decide +kernel
theorem dots5 : ∀ h ∈ [1, 2, 3, 4, 5], dotsB 5 h = true := by decide +kernel
theorem tile1 : ∀ w ∈ [1, 2], ∀ h ∈ [1, 2, 3, 4, 5], ∀ s ∈ [1, 2, 3, 4], tileB w h s = true := by decide +kernel
theorem tile3 : ∀ h ∈ [1, 2, 3, 4, 5], ∀ s ∈ [1, 2, 3, 4], tileB 3 h s = true := by decide +kernel
theorem tile4 : ∀ h ∈ [1, 2, 3], ∀ s ∈ [1, 2, 3, 4], tileB 4 h s = true := by decide +kernel
theorem tile44 : ∀ h ∈ [4, 5], ∀ s ∈ [1, 2, 3, 4], tileB 4 h s = true := by decide +kernel
theorem tile5 : ∀ h ∈ [1, 2, 3], ∀ s ∈ [1, 2, 3, 4], tileB 5 h s = true := by decide +kernel
theorem tile54 : ∀ s ∈ [1, 2, 3, 4], tileB 5 4 s = true := by decide +kernel
theorem tile55 : ∀ s ∈ [1, 2, 3, 4], tileB 5 5 s = true := by decide +kernel
theorem piece1 : ∀ w ∈ [1, 2], ∀ h ∈ [1, 2, 3, 4, 5], ∀ m ∈ [1, 2, 3, 4, 5], pieceB w h m = true := by decide +kernel
theorem piece3 : ∀ h ∈ [1, 2, 3], ∀ m ∈ [1, 2, 3, 4, 5], pieceB 3 h m = true := by decide +kernel
theorem piece34 : ∀ h ∈ [4, 5], ∀ m ∈ [1, 2, 3, 4, 5], pieceB 3 h m = true := by decide +kernel
theorem piece4 : ∀ h ∈ [1, 2, 3], ∀ m ∈ [1, 2, 3, 4, 5], pieceB 4 h m = true := by decide +kernel
theorem piece44 : ∀ m ∈ [1, 2, 3, 4, 5], pieceB 4 4 m = true := by decide +kernel
theorem piece45 : ∀ m ∈ [1, 2, 3, 4, 5], pieceB 4 5 m = true := by decide +kernel
theorem piece5 : ∀ h ∈ [1, 2, 3], ∀ m ∈ [1, 2, 3, 4, 5], pieceB 5 h m = true := by decide +kernel
theorem piece54 : ∀ m ∈ [1, 2, 3, 4, 5], pieceB 5 4 m = true := by decide +kernel
theorem piece55 : ∀ m ∈ [1, 2, 3, 4, 5], pieceB 5 5 m = true := by decide +kernel
theorem in5 {x : Nat} (h : x ∈ [1, 2, 3, 4, 5]) : x ∈ [1, 2, 3] ∨ x = 4 ∨ x = 5 := by
  simp only [List.mem_cons, List.not_mem_nil, or_false] at h ⊢
  omega
theorem all_dots {w h : Nat} (hw : w ∈ [1, 2, 3, 4, 5]) (hh : h ∈ [1, 2, 3, 4, 5]) : dotsB w h = true := by
  rcases in5 hw with q | rfl | rfl
  · exact dots1 w q h hh
  · exact dots4 h hh
  · exact dots5 h hh
theorem all_tiles {w h s : Nat} (hw : w ∈ [1, 2, 3, 4, 5]) (hh : h ∈ [1, 2, 3, 4, 5]) (hs : s ∈ [1, 2, 3, 4]) : tileB w h s = true := by
  simp only [List.mem_cons, List.not_mem_nil, or_false] at hw
  rcases hw with rfl | rfl | rfl | rfl | rfl
  · exact tile1 1 (by decide) h hh s hs
  · exact tile1 2 (by decide) h hh s hs
  · exact tile3 h hh s hs
  · rcases in5 hh with q | rfl | rfl
    · exact tile4 h q s hs
    · exact tile44 4 (by decide) s hs
    · exact tile44 5 (by decide) s hs
  · rcases in5 hh with q | rfl | rfl
    · exact tile5 h q s hs
    · exact tile54 s hs
    · exact tile55 s hs
theorem all_pieces {w h m : Nat} (hw : w ∈ [1, 2, 3, 4, 5]) (hh : h ∈ [1, 2, 3, 4, 5]) (hm : m ∈ [1, 2, 3, 4, 5]) : pieceB w h m = true := by
  simp only [List.mem_cons, List.not_mem_nil, or_false] at hw
  rcases hw with rfl | rfl | rfl | rfl | rfl
  · exact piece1 1 (by decide) h hh m hm
  · exact piece1 2 (by decide) h hh m hm
  · rcases in5 hh with q | rfl | rfl
    · exact piece3 h q m hm
    · exact piece34 4 (by decide) m hm
    · exact piece34 5 (by decide) m hm
  · rcases in5 hh with q | rfl | rfl
    · exact piece4 h q m hm
    · exact piece44 m hm
    · exact piece45 m hm
  · rcases in5 hh with q | rfl | rfl
    · exact piece5 h q m hm
    · exact piece54 m hm
    · exact piece55 m hm

theorem steps0 {s : Int} (hs : 1 ≤ s) : stepsN 0 s = [] := by
  unfold stepsN Builtin.Range.rangeSize
  rw [if_pos (by omega), if_neg (by omega)]; rfl
theorem tiles0 {h s : Int} (hs : 1 ≤ s) : tilesP 0 h s = [] := by
  unfold tilesP
  rw [steps0 hs]
  simp
section
variable {prog : Program} {w : World} {B : Heap} {A : Around} {mg mb : Str → Option Value} {L : Addr} {cl : List (Str × Addr)} {f : Addr} {cd : Value}
theorem law22 (P : Prg B mg mb) (hA : Room A 3) {o_script o_source o_width o_whole o_tiles o_most o_pieces o_other o_both o_x o_y o_at o_grain o_dot_y o_dot_x o_across : Option V} {src : List It} {H S g b0 b1 b2 b3 : Int} {T : List (List Int)} (hH : 0 ≤ H ∧ H ≤ 100) (hS : 1 ≤ S ∧ S ≤ 100) (hg : g = 4 ∨ g = 8)
    (hb0 : -100 ≤ b0 ∧ b0 ≤ b2 ∧ b2 ≤ 100) (hb1 : -100 ≤ b1 ∧ b1 ≤ b3 ∧ b3 ≤ 100) (hT : b0 < b2 → b1 < b3 → T = dotsO (boxP [b0, b1, b2, b3] g)) (hz : T.length ≤ 1000) :
    WS prog w B A (lawEnv L cl f cd) (lawRest 22) ([("script", o_script), ("source", o_source), ("width", o_width), ("height", some (.int H)), ("size", some (.int S)), ("whole", o_whole), ("tiles", o_tiles), ("most", o_most), ("pieces", o_pieces), ("other", o_other), ("both", o_both), ("x", o_x), ("y", o_y), ("at", o_at), ("grain", o_grain), ("box", some (.tup [b0, b1, b2, b3])), ("touched", some (.own 1)), ("dot_y", o_dot_y), ("dot_x", o_dot_x), ("across", o_across), ("told", some (.opt (boxP [b0, b1, b2, b3] g)))] : Rho) [src, T.map Sum.inr] TT := by
  have fd : ∀ a : Int, -100 ≤ a → a ≤ 100 → -100 ≤ a.fdiv g ∧ a.fdiv g ≤ 100 := fun a h1 h2 => by
    rcases hg with rfl | rfl <;> (rw [Int.fdiv_eq_ediv_of_nonneg _ (by decide)]; omega)
  refine WS_cons ?_
  walk_at "en"
  · have e0 : b0 ≠ b2 := by have q := ‹(b0 == b2) = false›; simpa using q
    have e1 : b1 ≠ b3 := by have q := ‹(b1 == b3) = false›; simpa using q
    have e : boxP [b0, b1, b2, b3] g = some [b0.fdiv g, b1.fdiv g, -(-b2).fdiv g - b0.fdiv g, -(-b3).fdiv g - b1.fdiv g] := by
      show (if (decide (b2 ≤ b0) || decide (b3 ≤ b1)) = true then none else some _) = _
      rw [if_neg (by simp only [Bool.or_eq_true, decide_eq_true_eq]; omega)]
    have hT' := hT (by omega) (by omega)
    rw [e] at hT'
    replace hT' : T = dotsP (b0.fdiv g) (b1.fdiv g) (-(-b2).fdiv g - b0.fdiv g) (-(-b3).fdiv g - b1.fdiv g) := hT'
    have f0 := fd b0 (by omega) (by omega)
    have f1 := fd b1 (by omega) (by omega)
    have f2 := fd (-b2) (by omega) (by omega)
    have f3 := fd (-b3) (by omega) (by omega)
    rw [e]
    refine dots_some P (hA.less (by decide)) (by omega) (by omega) (by omega) (by omega) (by rw [← hT']; omega) ?_
    walk_at "en"
    rw [← hT']
    refine Op_eq_lst hA.room .fresh (.own rfl) ?_
    walk_at "en"
    · refine tiles_ok P (hA.less (by decide)) (by omega) (by omega) (by omega) (by rw [tiles0 hS.1]; decide) ?_
      rw [tiles0 hS.1]
      walk_at "en"
      rfl
    · exact absurd ‹decide ((T.map Sum.inr : List It) = T.map Sum.inr) = false› (by simp)
  · have q := ‹(b1 == b3) = true›
    have e1 : b1 = b3 := by simpa using q
    refine tt_true ?_
    show (if (decide (b2 ≤ b0) || decide (b3 ≤ b1)) = true then none else some _ : Option (List Int)).isNone = true
    rw [if_pos (by simp only [Bool.or_eq_true, decide_eq_true_eq]; omega)]; rfl
  · have q := ‹(b0 == b2) = true›
    have e1 : b0 = b2 := by simpa using q
    refine tt_true ?_
    show (if (decide (b2 ≤ b0) || decide (b3 ≤ b1)) = true then none else some _ : Option (List Int)).isNone = true
    rw [if_pos (by simp only [Bool.or_eq_true, decide_eq_true_eq]; omega)]; rfl
end

theorem len_flat {α β : Type} {f : α → List β} {n : Nat} : ∀ {l : List α}, (∀ x ∈ l, (f x).length ≤ n) → (l.flatMap f).length ≤ l.length * n
  | [], _ => by simp
  | a :: l, h => by
    rw [List.flatMap_cons, List.length_append, List.length_cons, Nat.succ_mul]
    have := len_flat (l := l) fun x hx => h x (.tail _ hx)
    have := h a (.head _)
    omega
def touchB (g b0 b1 b2 b3 x y : Int) : Bool := decide (x * g < b2) && decide (b0 < (x + 1) * g) && (decide (y * g < b3) && decide (b1 < (y + 1) * g))
def touchRow (g b0 b1 b2 b3 y : Int) : List (List Int) := (rangeN (-4) 5).flatMap fun x => if touchB g b0 b1 b2 b3 x y = true then [[x, y]] else []
def touchP (g b0 b1 b2 b3 : Int) : List (List Int) := (rangeN (-4) 5).flatMap (touchRow g b0 b1 b2 b3)
theorem range9 : (rangeN (-4) 5).length = 9 := by decide
theorem row_len {g b0 b1 b2 b3 y : Int} : (touchRow g b0 b1 b2 b3 y).length ≤ 9 := by
  have := len_flat (n := 1) (l := rangeN (-4) 5) (f := fun x => if touchB g b0 b1 b2 b3 x y = true then [[x, y]] else []) fun x _ => by split <;> simp
  rw [range9] at this
  exact this
theorem touch_len {g b0 b1 b2 b3 : Int} : (touchP g b0 b1 b2 b3).length ≤ 81 := by
  have := len_flat (n := 9) (l := rangeN (-4) 5) (f := touchRow g b0 b1 b2 b3) fun x _ => row_len
  rw [range9] at this
  exact this
section
variable {prog : Program} {w : World} {B : Heap} {A : Around} {mg mb : Str → Option Value} {L : Addr} {cl : List (Str × Addr)} {f : Addr} {cd : Value}
theorem law19 (P : Prg B mg mb) (hA : Room A 3) {o_script o_source o_width o_whole o_tiles o_most o_pieces o_other o_both o_x o_y o_at o_touched o_dot_y o_dot_x o_across o_told : Option V} {src : List It} {H S g b0 b1 b2 b3 : Int} (hH : 0 ≤ H ∧ H ≤ 100) (hS : 1 ≤ S ∧ S ≤ 100) (hg : g = 4 ∨ g = 8)
    (hb0 : -100 ≤ b0 ∧ b0 ≤ b2 ∧ b2 ≤ 100) (hb1 : -100 ≤ b1 ∧ b1 ≤ b3 ∧ b3 ≤ 100) (hT : b0 < b2 → b1 < b3 → touchP g b0 b1 b2 b3 = dotsO (boxP [b0, b1, b2, b3] g)) :
    WS prog w B A (lawEnv L cl f cd) (lawRest 19) ([("script", o_script), ("source", o_source), ("width", o_width), ("height", some (.int H)), ("size", some (.int S)), ("whole", o_whole), ("tiles", o_tiles), ("most", o_most), ("pieces", o_pieces), ("other", o_other), ("both", o_both), ("x", o_x), ("y", o_y), ("at", o_at), ("grain", some (.int g)), ("box", some (.tup [b0, b1, b2, b3])), ("touched", o_touched), ("dot_y", o_dot_y), ("dot_x", o_dot_x), ("across", o_across), ("told", o_told)] : Rho) [src] TT := by
  refine WS_cons ?_
  refine W1_Own ?_
  walk_at "en"
  refine W1_For ?_
  walk_at "en"
  refine x_range2 (a := -4) (b := 5) (by omega) (by omega) (by omega) (by omega) ?_
  rw [range_eq]
  refine forK_ind (fun xs ρ' O' => ∃ ys acc p1 p2 p3, xs = ys.map Sum.inl ∧ ρ' = ([("script", o_script), ("source", o_source), ("width", o_width), ("height", some (.int H)), ("size", some (.int S)), ("whole", o_whole), ("tiles", o_tiles), ("most", o_most), ("pieces", o_pieces), ("other", o_other), ("both", o_both), ("x", o_x), ("y", o_y), ("at", o_at), ("grain", some (.int g)), ("box", some (.tup [b0, b1, b2, b3])), ("touched", some (.own 1)), ("dot_y", p1), ("dot_x", p2), ("across", p3), ("told", o_told)] : Rho) ∧ O' = [src, acc.map Sum.inr] ∧ acc ++ ys.flatMap (touchRow g b0 b1 b2 b3) = touchP g b0 b1 b2 b3) (fun ρ' O' hI => ?_) (fun x xs ρ' O' hI => ?_) ⟨rangeN (-4) 5, [], _, _, _, rfl, rfl, rfl, rfl⟩
  · obtain ⟨ys, acc, p1, p2, p3, e1, rfl, rfl, e2⟩ := hI
    cases ys with
    | cons => cases e1
    | nil =>
      have e3 : acc = touchP g b0 b1 b2 b3 := by simpa using e2
      subst e3
      refine then_next ?_
      walk_at "es"
      refine box_ok P (hA.less (by decide)) (by omega) (by omega) ?_
      walk_at "b"
      walk_at "b"
      exact law22 P hA hH hS hg hb0 hb1 hT (Nat.le_trans touch_len (by decide))
  · obtain ⟨ys, acc, p1, p2, p3, e1, rfl, rfl, e2⟩ := hI
    cases ys with
    | nil => cases e1
    | cons y ys =>
      obtain ⟨rfl, rfl⟩ := List.cons.inj e1
      walk_at "en"
      refine W1_For ?_
      walk_at "en"
      refine x_range2 (a := -4) (b := 5) (by omega) (by omega) (by omega) (by omega) ?_
      rw [range_eq]
      refine forK_ind (fun xs ρ' O' => ∃ zs acc' p2 p3, xs = zs.map Sum.inl ∧ ρ' = ([("script", o_script), ("source", o_source), ("width", o_width), ("height", some (.int H)), ("size", some (.int S)), ("whole", o_whole), ("tiles", o_tiles), ("most", o_most), ("pieces", o_pieces), ("other", o_other), ("both", o_both), ("x", o_x), ("y", o_y), ("at", o_at), ("grain", some (.int g)), ("box", some (.tup [b0, b1, b2, b3])), ("touched", some (.own 1)), ("dot_y", some (.int y)), ("dot_x", p2), ("across", p3), ("told", o_told)] : Rho) ∧ O' = [src, acc'.map Sum.inr] ∧ acc' ++ (zs.flatMap fun x => if touchB g b0 b1 b2 b3 x y = true then [[x, y]] else []) = acc ++ touchRow g b0 b1 b2 b3 y) (fun ρ' O' hI => ?_) (fun x xs ρ' O' hI => ?_) ⟨rangeN (-4) 5, acc, _, _, rfl, rfl, rfl, rfl⟩
      · obtain ⟨zs, acc', p2, p3, e1, rfl, rfl, e3⟩ := hI
        cases zs with
        | cons => cases e1
        | nil =>
          refine then_next ?_
          walk_at "en"
          refine ⟨ys, acc', _, _, _, rfl, rfl, rfl, ?_⟩
          rw [← e2, List.flatMap_cons, ← List.append_assoc, ← e3, List.flatMap_nil, List.append_nil]
      · obtain ⟨zs, acc', p2, p3, e1, rfl, rfl, e3⟩ := hI
        cases zs with
        | nil => cases e1
        | cons z zs =>
          obtain ⟨rfl, rfl⟩ := List.cons.inj e1
          have l2 := congrArg List.length e2
          have l3 := congrArg List.length e3
          have l4 := touch_len (g := g) (b0 := b0) (b1 := b1) (b2 := b2) (b3 := b3)
          simp only [List.length_append, List.flatMap_cons] at l2 l3
          have yes : touchB g b0 b1 b2 b3 z y = true → acc' ++ [[z, y]] ++ (zs.flatMap fun x => if touchB g b0 b1 b2 b3 x y = true then [[x, y]] else []) = acc ++ touchRow g b0 b1 b2 b3 y := fun q => by
            rw [← e3, List.flatMap_cons, if_pos q, List.append_assoc]
          have no : touchB g b0 b1 b2 b3 z y = false → acc' ++ (zs.flatMap fun x => if touchB g b0 b1 b2 b3 x y = true then [[x, y]] else []) = acc ++ touchRow g b0 b1 b2 b3 y := fun q => by
            rw [← e3, List.flatMap_cons, if_neg (by rw [q]; decide), List.nil_append]
          walk_at "es"
          · refine W1_append (k := 1) (by walk_at "mem") ?_
            walk_at "en"
            refine x_app (xs := acc'.map Sum.inr) rfl (by simp; omega) ?_
            walk_at "en"
            refine ⟨zs, acc' ++ [[z, y]], _, _, rfl, rfl, ?_, yes ?_⟩
            · rw [List.map_append]; rfl
            · unfold touchB
              rw [‹decide (z * g < b2) = true›, ‹decide (b0 < (z + 1) * g) = true›, ‹decide (y * g < b3) = true›, ‹decide (b1 < (y + 1) * g) = true›]; rfl
          all_goals
            refine ⟨zs, acc', _, _, rfl, rfl, rfl, no ?_⟩
            unfold touchB
            first
              | (rw [‹decide (z * g < b2) = false›]; rfl)
              | (rw [‹decide (b0 < (z + 1) * g) = false›, Bool.and_false]; rfl)
              | (rw [‹decide (y * g < b3) = false›, Bool.false_and, Bool.and_false])
              | (rw [‹decide (b1 < (y + 1) * g) = false›, Bool.and_false, Bool.and_false])
end

theorem range_nil {a b : Int} (h : b ≤ a) : rangeN a b = [] := by
  unfold rangeN
  rw [rangeSize_one, if_neg (by omega)]; rfl
theorem range_cons {a b : Int} (h : a < b) : rangeN a b = a :: rangeN (a + 1) b := by
  unfold rangeN
  rw [rangeSize_one, rangeSize_one, if_pos h]
  have e1 : (b - a).toNat = (b - a - 1).toNat + 1 := by omega
  rw [e1, List.range_succ_eq_map, List.map_cons, List.map_map]
  have e2 : (if a + 1 < b then b - (a + 1) else 0 : Int).toNat = (b - a - 1).toNat := by split <;> omega
  rw [e2]
  congr 1
  · simp
  · apply List.map_congr_left
    intro i _
    simp only [Function.comp_apply]
    omega
theorem range_len {a b : Int} : (rangeN a b).length = (b - a).toNat := by
  unfold rangeN
  rw [rangeSize_one, List.length_map, List.length_range]
  split <;> omega
theorem filter_range (c d : Int) : ∀ (n : Nat) (a b : Int), (b - a).toNat = n → (rangeN a b).filter (fun x => decide (c ≤ x) && decide (x < d)) = rangeN (mxI a c) (mnI b d)
  | 0, a, b, h => by
    rw [range_nil (by omega), range_nil (by unfold mxI mnI; (repeat' split) <;> omega)]; rfl
  | n + 1, a, b, h => by
    rw [range_cons (by omega), List.filter_cons, filter_range c d n (a + 1) b (by omega)]
    by_cases h1 : c ≤ a
    · by_cases h2 : a < d
      · rw [if_pos (by simp [h1, h2])]
        have e1 : mxI (a + 1) c = a + 1 := by unfold mxI; split <;> omega
        have e2 : mxI a c = a := by unfold mxI; split <;> omega
        rw [e1, e2, ← range_cons (by unfold mnI; split <;> omega)]
      · rw [if_neg (by simp [h1, h2]), range_nil (by unfold mxI mnI; (repeat' split) <;> omega), range_nil (by unfold mxI mnI; (repeat' split) <;> omega)]
    · rw [if_neg (by simp [h1])]
      have e1 : mxI (a + 1) c = c := by unfold mxI; split <;> omega
      have e2 : mxI a c = c := by unfold mxI; split <;> omega
      rw [e1, e2]
def grid (xs ys : List Int) : List (List Int) := ys.flatMap fun y => xs.map fun x => [x, y]
theorem grid_nil (xs : List Int) : grid xs [] = [] := rfl
theorem grid_nil' : ∀ (ys : List Int), grid [] ys = []
  | [] => rfl
  | _ :: ys => by
    have := grid_nil' ys
    unfold grid at this ⊢
    rw [List.flatMap_cons, this]; rfl
theorem row_filter {px : Int → Bool} {P : List Int → Bool} {y : Int} {b : Bool} (hP : ∀ x, P [x, y] = (px x && b)) : ∀ xs : List Int, (xs.map fun x => [x, y]).filter P = if b = true then (xs.filter px).map fun x => [x, y] else []
  | [] => by simp
  | x :: xs => by
    rw [List.map_cons, List.filter_cons, hP, row_filter hP xs, List.filter_cons]
    cases b <;> cases px x <;> simp
theorem grid_filter {px py : Int → Bool} {P : List Int → Bool} (hP : ∀ x y, P [x, y] = (px x && py y)) (xs : List Int) : ∀ ys : List Int, (grid xs ys).filter P = grid (xs.filter px) (ys.filter py)
  | [] => rfl
  | y :: ys => by
    have ih := grid_filter hP xs ys
    unfold grid at ih ⊢
    rw [List.flatMap_cons, List.filter_append, ih, row_filter (fun x => hP x y), List.filter_cons]
    cases py y <;> simp
theorem row_if {px : Int → Bool} {P : Int → Bool} {y : Int} {b : Bool} (hP : ∀ x, P x = (px x && b)) : ∀ xs : List Int, (xs.flatMap fun x => if P x = true then [[x, y]] else []) = if b = true then (xs.filter px).map fun x => [x, y] else []
  | [] => by simp
  | x :: xs => by
    rw [List.flatMap_cons, hP, row_if hP xs, List.filter_cons]
    cases b <;> cases px x <;> simp
theorem grid_if {px py : Int → Bool} {P : Int → Int → Bool} (hP : ∀ x y, P x y = (px x && py y)) (xs : List Int) : ∀ ys : List Int, (ys.flatMap fun y => xs.flatMap fun x => if P x y = true then [[x, y]] else []) = grid (xs.filter px) (ys.filter py)
  | [] => rfl
  | y :: ys => by
    have ih := grid_if hP xs ys
    unfold grid at ih ⊢
    rw [List.flatMap_cons, ih, row_if (fun x => hP x y), List.filter_cons]
    cases py y <;> simp
theorem dots_grid (l t w h : Int) : dotsP l t w h = grid (rangeN l (l + w)) (rangeN t (t + h)) := rfl
theorem side_fact {g lo hi : Int} (hg : g = 4 ∨ g = 8) (h : -9 ≤ lo ∧ lo < hi ∧ hi ≤ 10) : (rangeN (-4) 5).filter (fun x => decide (x * g < hi) && decide (lo < (x + 1) * g)) = rangeN (lo.fdiv g) (lo.fdiv g + (-(-hi).fdiv g - lo.fdiv g)) := by
  have e : (rangeN (-4) 5).filter (fun x => decide (x * g < hi) && decide (lo < (x + 1) * g)) = (rangeN (-4) 5).filter (fun x => decide (lo.fdiv g ≤ x) && decide (x < -(-hi).fdiv g)) := by
    apply List.filter_congr
    intro x _
    rw [Bool.and_comm]
    rcases hg with rfl | rfl <;> (rw [Int.fdiv_eq_ediv_of_nonneg _ (by decide), Int.fdiv_eq_ediv_of_nonneg _ (by decide)]; congr 1 <;> (apply decide_eq_decide.mpr; omega))
  rw [e, filter_range _ _ 9 _ _ (by decide)]
  have h1 : mxI (-4) (lo.fdiv g) = lo.fdiv g := by
    unfold mxI
    rcases hg with rfl | rfl <;> (rw [Int.fdiv_eq_ediv_of_nonneg _ (by decide)]; split <;> omega)
  have h2 : mnI 5 (-(-hi).fdiv g) = lo.fdiv g + (-(-hi).fdiv g - lo.fdiv g) := by
    unfold mnI
    rcases hg with rfl | rfl <;> (rw [Int.fdiv_eq_ediv_of_nonneg _ (by decide), Int.fdiv_eq_ediv_of_nonneg _ (by decide)]; split <;> omega)
  rw [h1, h2]
theorem touch_fact {g b0 b1 b2 b3 : Int} (hg : g = 4 ∨ g = 8) (hb0 : -9 ≤ b0 ∧ b0 < b2 ∧ b2 ≤ 10) (hb1 : -9 ≤ b1 ∧ b1 < b3 ∧ b3 ≤ 10) : touchP g b0 b1 b2 b3 = dotsO (boxP [b0, b1, b2, b3] g) := by
  have e : boxP [b0, b1, b2, b3] g = some [b0.fdiv g, b1.fdiv g, -(-b2).fdiv g - b0.fdiv g, -(-b3).fdiv g - b1.fdiv g] := by
    show (if (decide (b2 ≤ b0) || decide (b3 ≤ b1)) = true then none else some _) = _
    rw [if_neg (by simp only [Bool.or_eq_true, decide_eq_true_eq]; omega)]
  rw [e]
  show _ = dotsP (b0.fdiv g) (b1.fdiv g) (-(-b2).fdiv g - b0.fdiv g) (-(-b3).fdiv g - b1.fdiv g)
  rw [dots_grid, ← side_fact hg hb0, ← side_fact hg hb1]
  unfold touchP touchRow
  exact grid_if (px := fun x => decide (x * g < b2) && decide (b0 < (x + 1) * g)) (py := fun y => decide (y * g < b3) && decide (b1 < (y + 1) * g)) (fun x y => rfl) _ _

section
variable {prog : Program} {w : World} {B : Heap} {A : Around} {mg mb : Str → Option Value} {L : Addr} {cl : List (Str × Addr)} {f : Addr} {cd : Value}
theorem law18 (P : Prg B mg mb) (hA : Room A 3) {o_script o_width o_whole o_tiles o_most o_pieces o_other o_both o_x o_y o_at o_touched o_dot_y o_dot_x o_across o_told : Option V} {src : List It} {H S g v0 v1 v2 v3 : Int} (hH : 0 ≤ H ∧ H ≤ 100) (hS : 1 ≤ S ∧ S ≤ 100) (hg : g = 4 ∨ g = 8)
    (h0 : -9 ≤ v0 ∧ v0 ≤ 10) (h1 : -9 ≤ v1 ∧ v1 ≤ 10) (h2 : -9 ≤ v2 ∧ v2 ≤ 10) (h3 : -9 ≤ v3 ∧ v3 ≤ 10) :
    WS prog w B A (lawEnv L cl f cd) (lawRest 18) ([("script", o_script), ("source", some (.own 0)), ("width", o_width), ("height", some (.int H)), ("size", some (.int S)), ("whole", o_whole), ("tiles", o_tiles), ("most", o_most), ("pieces", o_pieces), ("other", o_other), ("both", o_both), ("x", o_x), ("y", o_y), ("at", o_at), ("grain", some (.int g)), ("box", some (.lst [.inl v0, .inl v1, .inl v2, .inl v3])), ("touched", o_touched), ("dot_y", o_dot_y), ("dot_x", o_dot_x), ("across", o_across), ("told", o_told)] : Rho) [src] TT := by
  refine WS_cons ?_
  refine W1_Assign ?_
  walk_at "ee"
  refine law19 P hA hH hS hg ?_ ?_ fun q1 q2 => touch_fact hg ⟨?_, q1, ?_⟩ ⟨?_, q2, ?_⟩
  all_goals ((repeat' split) <;> omega)
theorem law16 (P : Prg B mg mb) (hA : Room A 3) {o_script o_width o_whole o_tiles o_most o_pieces o_other o_both o_x o_y o_at o_grain o_box o_touched o_dot_y o_dot_x o_across o_told : Option V} {H S a b : Int} (hH : 0 ≤ H ∧ H ≤ 100) (hS : 1 ≤ S ∧ S ≤ 100) :
    WS prog w B A (lawEnv L cl f cd) (lawRest 16) ([("script", o_script), ("source", some (.own 0)), ("width", o_width), ("height", some (.int H)), ("size", some (.int S)), ("whole", o_whole), ("tiles", o_tiles), ("most", o_most), ("pieces", o_pieces), ("other", o_other), ("both", o_both), ("x", o_x), ("y", o_y), ("at", o_at), ("grain", o_grain), ("box", o_box), ("touched", o_touched), ("dot_y", o_dot_y), ("dot_x", o_dot_x), ("across", o_across), ("told", o_told)] : Rho) [[.inl a, .inl b]] TT := by
  refine WS_cons ?_
  walk_at "es"
  refine one_ok P (hA.less (by decide)) (k := 0) (a := a) (b := b) rfl ?_
  generalize hgg : (if (takeP a b 2).1 = 0 then (4 : Int) else 8) = g
  have hg : g = 4 ∨ g = 8 := by rw [← hgg]; split <;> simp
  generalize (takeP a b 2).2.1 = a1
  generalize (takeP a b 2).2.2 = b1
  walk_at "b"
  walk_at "b"
  refine WS_cons ?_
  refine W1_comp ["turn"] [("source", .own 0)] hA.h fits0 (by show compOk _ _ ["source"] = true; decide +kernel) (CapsOk.all (.cons (by walk_at "mem") (by walk_at "kind") .nil)) ?_ (by first | kernel_rfl | rfl)
  walk_at "en"
  refine x_range1 (b := 4) (by omega) (by omega) ?_
  rw [range_eq]
  intro C cl'
  refine cloop_ind mono0 (fun xs ρ' O' => ∃ zs acc a b o1, xs = zs.map Sum.inl ∧ ρ' = ([("turn", o1), ("source", some (.own 0))] : Rho) ∧ O' = [[.inl a, .inl b], acc.map Sum.inl] ∧ acc.length + zs.length = 4 ∧ ∀ v ∈ acc, -9 ≤ v ∧ v ≤ 10)
    (fun ρ' O' hI => ?_) (fun x xs ρ' O' hI => ?_) ⟨rangeN 0 4, [], a1, b1, none, rfl, rfl, rfl, by decide, fun v hv => nomatch hv⟩
  · obtain ⟨zs, acc, a, b, o1, e1, rfl, rfl, e2, e3⟩ := hI
    cases zs with
    | cons => cases e1
    | nil =>
      match acc, e2, e3 with
      | [v0, v1, v2, v3], _, e3 =>
        walk_at "b"
        walk_at "b"
        exact law18 P hA hH hS hg (e3 v0 (by simp)) (e3 v1 (by simp)) (e3 v2 (by simp)) (e3 v3 (by simp))
  · obtain ⟨zs, acc, a, b, o1, e1, rfl, rfl, e2, e3⟩ := hI
    cases zs with
    | nil => cases e1
    | cons z zs =>
      obtain ⟨rfl, rfl⟩ := List.cons.inj e1
      refine ⟨_, .name (by walk_at "kind") .here, ?_⟩
      unfold Bd0
      walk_at "en"
      obtain ⟨t1, t2⟩ := take_lt a b (t := 20) (by decide)
      refine take_ok P (hA.less (by decide)) (k := 0) (a := a) (b := b) rfl (by decide) (by decide) ?_
      walk_at "en"
      refine x_app (xs := acc.map Sum.inl) rfl (by simp at e2 ⊢; omega) ?_
      refine ⟨zs, acc ++ [(takeP a b 20).1 - 9], (takeP a b 20).2.1, (takeP a b 20).2.2, some (.int z), rfl, rfl, ?_, by simp at e2 ⊢; omega, fun v hv => ?_⟩
      · rw [List.map_append]; rfl
      · rcases List.mem_append.mp hv with hv | hv
        · exact e3 v hv
        · rw [List.mem_singleton.mp hv]; omega
end

theorem mem_range {a b x : Int} : x ∈ rangeN a b ↔ a ≤ x ∧ x < b := by
  unfold rangeN
  have h1 := rangeSize_one a b
  rw [List.mem_map]
  constructor
  · rintro ⟨i, hi, rfl⟩
    rw [List.mem_range] at hi
    split at h1 <;> omega
  · rintro ⟨h2, h3⟩
    rw [if_pos (by omega)] at h1
    exact ⟨(x - a).toNat, by rw [List.mem_range]; omega, by omega⟩
theorem mem_dots {l t w h x y : Int} : [x, y] ∈ dotsP l t w h ↔ (l ≤ x ∧ x < l + w) ∧ (t ≤ y ∧ y < t + h) := by
  unfold dotsP
  rw [List.mem_flatMap]
  constructor
  · rintro ⟨y', hy, hx⟩
    obtain ⟨x', hx', e⟩ := List.mem_map.mp hx
    simp only [List.cons.injEq, and_true] at e
    obtain ⟨rfl, rfl⟩ := e
    exact ⟨mem_range.mp hx', mem_range.mp hy⟩
  · rintro ⟨h1, h2⟩
    exact ⟨y, mem_range.mpr h2, List.mem_map.mpr ⟨x, mem_range.mpr h1, rfl⟩⟩
theorem memB_dots {l t w h x y : Int} : memB (.inr [x, y]) ((dotsP l t w h).map Sum.inr) = holdsB [l, t, w, h] x y := by
  have e1 : memB (.inr [x, y]) ((dotsP l t w h).map Sum.inr) = true ↔ holdsB [l, t, w, h] x y = true := by
    rw [memB_iff]
    constructor
    · intro q
      obtain ⟨z, hz, e⟩ := List.mem_map.mp q
      injection e with e
      subst e
      have := mem_dots.mp hz
      unfold holdsB
      simp only [Bool.and_eq_true, decide_eq_true_eq]
      exact ⟨this.1, this.2⟩
    · intro q
      unfold holdsB at q
      simp only [Bool.and_eq_true, decide_eq_true_eq] at q
      exact List.mem_map.mpr ⟨_, mem_dots.mpr ⟨q.1, q.2⟩, rfl⟩
  cases h1 : memB (.inr [x, y]) ((dotsP l t w h).map Sum.inr) <;> cases h2 : holdsB [l, t, w, h] x y <;> simp_all
section
variable {prog : Program} {w : World} {B : Heap} {A : Around} {mg mb : Str → Option Value} {L : Addr} {cl : List (Str × Addr)} {f : Addr} {cd : Value}
theorem law15 (P : Prg B mg mb) (hA : Room A 3) {o_script o_width o_whole o_most o_pieces o_other o_both o_grain o_box o_touched o_dot_y o_dot_x o_across o_told : Option V} {ts : List (List Int)} {H S X Y p q : Int} (hH : 0 ≤ H ∧ H ≤ 100) (hS : 1 ≤ S ∧ S ≤ 100) (hr : ∀ q ∈ ts, RectOk q) :
    WS prog w B A (lawEnv L cl f cd) (lawRest 15) ([("script", o_script), ("source", some (.own 0)), ("width", o_width), ("height", some (.int H)), ("size", some (.int S)), ("whole", o_whole), ("tiles", some (.lst (ts.map Sum.inr))), ("most", o_most), ("pieces", o_pieces), ("other", o_other), ("both", o_both), ("x", some (.int X)), ("y", some (.int Y)), ("at", some (.lst ((ts.filter fun q => holdsB q X Y).map Sum.inr))), ("grain", o_grain), ("box", o_box), ("touched", o_touched), ("dot_y", o_dot_y), ("dot_x", o_dot_x), ("across", o_across), ("told", o_told)] : Rho) [[.inl p, .inl q]] TT := by
  have hf : ts.find? (fun q => holdsB q X Y) = (ts.filter fun q => holdsB q X Y).head? := (List.head?_filter ..).symm
  generalize ts.filter (fun q => holdsB q X Y) = fs at hf ⊢
  refine WS_cons ?_
  walk_at "ee"
  refine at_ok P (hA.less (by decide)) hr ?_
  rw [hf]
  cases fs with
  | nil =>
    walk_at "ee"
    refine Op_ne_opt (a := none) (b := none) hA.room ?_
    walk_at "ee"
    exact WS_nil (then_next (law16 P hA hH hS))
  | cons q fs =>
    walk_at "ee"
    refine Op_ne_opt (a := some q) (b := some q) hA.room ?_
    walk_at "ee"
    · exact absurd ‹(!decide (some q = some q)) = true› (by simp)
    · exact WS_nil (then_next (law16 P hA hH hS))
theorem law13 (P : Prg B mg mb) (hA : Room A 3) {o_script o_width o_whole o_most o_pieces o_both o_at o_grain o_box o_touched o_dot_y o_dot_x o_across o_told : Option V} {ts : List (List Int)} {H S X Y a b c d p q : Int} (hH : 0 ≤ H ∧ H ≤ 100) (hS : 1 ≤ S ∧ S ≤ 100) (hr : ∀ q ∈ ts, RectOk q) (hz : ts.length ≤ 100000) (hdz : ∀ q ∈ ts, (dotsQ q).length ≤ 64)
    (ha : -1000 ≤ a ∧ a ≤ 1000) (hb : -1000 ≤ b ∧ b ≤ 1000) (hc : -1000 ≤ c ∧ c ≤ 1000) (hd : -1000 ≤ d ∧ d ≤ 1000) (hoz : (dotsP a b c d).length ≤ 100000) :
    WS prog w B A (lawEnv L cl f cd) (lawRest 13) ([("script", o_script), ("source", some (.own 0)), ("width", o_width), ("height", some (.int H)), ("size", some (.int S)), ("whole", o_whole), ("tiles", some (.lst (ts.map Sum.inr))), ("most", o_most), ("pieces", o_pieces), ("other", some (.tup [a, b, c, d])), ("both", o_both), ("x", some (.int X)), ("y", some (.int Y)), ("at", o_at), ("grain", o_grain), ("box", o_box), ("touched", o_touched), ("dot_y", o_dot_y), ("dot_x", o_dot_x), ("across", o_across), ("told", o_told)] : Rho) [[.inl p, .inl q]] TT := by
  refine WS_cons ?_
  walk_at "ee"
  refine holds_ok P (hA.less (by decide)) ?_
  walk_at "ee"
  refine dots_some P (hA.less (by decide)) ha hb hc hd hoz ?_
  walk_at "ee"
  · have q := ‹(holdsB [a, b, c, d] X Y != memB (.inr [X, Y]) ((dotsP a b c d).map Sum.inr)) = true›
    rw [memB_dots] at q
    exact absurd q (by simp)
  refine WS_nil (then_next ?_)
  refine WS_cons ?_
  refine W1_comp ["tile"] [("x", .int X), ("y", .int Y)] hA.h fits1 (by show compOk _ _ ["x", "y"] = true; decide +kernel) (CapsOk.all (.cons (by walk_at "mem") (by walk_at "kind") (.cons (by walk_at "mem") (by walk_at "kind") .nil))) ?_ (by first | kernel_rfl | rfl)
  walk_at "ee"
  refine ⟨_, .inl rfl, ?_⟩
  intro C cl'
  refine cloop_ind mono1 (fun xs ρ' O' => ∃ zs acc o1, xs = zs.map Sum.inr ∧ ρ' = ([("tile", o1), ("x", some (.int X)), ("y", some (.int Y))] : Rho) ∧ O' = [[.inl p, .inl q], acc.map Sum.inr] ∧ (∀ q ∈ zs, q ∈ ts) ∧ acc ++ zs.filter (fun q => holdsB q X Y) = ts.filter fun q => holdsB q X Y)
    (fun ρ' O' hI => ?_) (fun x xs ρ' O' hI => ?_) ⟨ts, [], none, rfl, rfl, rfl, fun _ h => h, rfl⟩
  · obtain ⟨zs, acc, o1, e1, rfl, rfl, _, e2⟩ := hI
    cases zs with
    | cons => cases e1
    | nil =>
      have e3 : acc = ts.filter fun q => holdsB q X Y := by simpa using e2
      subst e3
      walk_at "b"
      walk_at "b"
      exact law15 P hA hH hS hr
  · obtain ⟨zs, acc, o1, e1, rfl, rfl, hm, e2⟩ := hI
    cases zs with
    | nil => cases e1
    | cons z zs =>
      obtain ⟨rfl, rfl⟩ := List.cons.inj e1
      obtain ⟨a', b', c', d', rfl, ha', hb', hc', hd'⟩ := hr z (hm z (.head _))
      have l1 := hdz _ (hm _ (.head _))
      replace l1 : (dotsP a' b' c' d').length ≤ 64 := l1
      have l2 := congrArg List.length e2
      have l3 := List.length_filter_le (fun q => holdsB q X Y) ts
      simp only [List.length_append] at l2
      refine ⟨_, .name (by walk_at "kind") .here, ?_⟩
      unfold Bd1
      walk_at "ee"
      refine dots_some P (hA.less (by decide)) ha' hb' hc' hd' (by omega) ?_
      walk_at "ee"
      · unfold Bd0
        walk_at "ee"
        refine x_app (xs := acc.map Sum.inr) rfl (by simp; omega) ?_
        refine ⟨zs, acc ++ [[a', b', c', d']], _, rfl, rfl, ?_, fun q hq => hm q (.tail _ hq), ?_⟩
        · rw [List.map_append]; rfl
        · have hq := ‹memB (.inr [X, Y]) ((dotsP a' b' c' d').map Sum.inr) = true›
          rw [memB_dots] at hq
          rw [← e2, List.filter_cons, if_pos hq, List.append_assoc]; rfl
      · refine ⟨zs, acc, _, rfl, rfl, rfl, fun q hq => hm q (.tail _ hq), ?_⟩
        have hq := ‹memB (.inr [X, Y]) ((dotsP a' b' c' d').map Sum.inr) = false›
        rw [memB_dots] at hq
        rw [← e2, List.filter_cons, if_neg (by rw [hq]; decide)]
theorem law12 (P : Prg B mg mb) (hA : Room A 3) {o_script o_width o_whole o_most o_pieces o_both o_x o_y o_at o_grain o_box o_touched o_dot_y o_dot_x o_across o_told : Option V} {ts : List (List Int)} {H S a b c d p q : Int} (hH : 0 ≤ H ∧ H ≤ 100) (hS : 1 ≤ S ∧ S ≤ 100) (hr : ∀ q ∈ ts, RectOk q) (hz : ts.length ≤ 100000) (hdz : ∀ q ∈ ts, (dotsQ q).length ≤ 64)
    (ha : -1000 ≤ a ∧ a ≤ 1000) (hb : -1000 ≤ b ∧ b ≤ 1000) (hc : -1000 ≤ c ∧ c ≤ 1000) (hd : -1000 ≤ d ∧ d ≤ 1000) (hoz : (dotsP a b c d).length ≤ 100000) :
    WS prog w B A (lawEnv L cl f cd) (lawRest 12) ([("script", o_script), ("source", some (.own 0)), ("width", o_width), ("height", some (.int H)), ("size", some (.int S)), ("whole", o_whole), ("tiles", some (.lst (ts.map Sum.inr))), ("most", o_most), ("pieces", o_pieces), ("other", some (.tup [a, b, c, d])), ("both", o_both), ("x", o_x), ("y", o_y), ("at", o_at), ("grain", o_grain), ("box", o_box), ("touched", o_touched), ("dot_y", o_dot_y), ("dot_x", o_dot_x), ("across", o_across), ("told", o_told)] : Rho) [[.inl p, .inl q]] TT := by
  refine WS_cons ?_
  refine W1_Unpack (xs := ["x", "y"]) hA.h (.cons (.cons .nil)) ?_ (by rfl) (by first | kernel_rfl | rfl)
  walk_at "ee"
  refine take_ok P (hA.less (by decide)) (k := 0) (a := p) (b := q) rfl (by decide) (by decide) ?_
  walk_at "ee"
  refine take_ok P (hA.less (by decide)) (k := 0) rfl (by decide) (by decide) ?_
  walk_at "ee"
  exact law13 P hA hH hS hr hz hdz ha hb hc hd hoz
end

def inB (W H : Int) (z : List Int) : Bool := match z with
  | [x, y] => (decide (0 ≤ x) && decide (x < W)) && (decide (0 ≤ y) && decide (y < H))
  | _ => false
theorem mx_comm (a b : Int) : mxI a b = mxI b a := by unfold mxI; (repeat' split) <;> omega
theorem mn_comm (a b : Int) : mnI a b = mnI b a := by unfold mnI; (repeat' split) <;> omega
theorem common_symm {a b c d e f g h : Int} : commonP [a, b, c, d] [e, f, g, h] = commonP [e, f, g, h] [a, b, c, d] := by
  unfold commonP
  dsimp only
  rw [mx_comm a e, mx_comm b f, mn_comm (a + c) (e + g), mn_comm (b + d) (f + h)]
theorem common_fact {W H a b c d : Int} : dotsO (commonP [0, 0, W, H] [a, b, c, d]) = (dotsP a b c d).filter (inB W H) := by
  have e : (dotsP a b c d).filter (inB W H) = grid (rangeN (mxI 0 a) (mnI (0 + W) (a + c))) (rangeN (mxI 0 b) (mnI (0 + H) (b + d))) := by
    rw [dots_grid, grid_filter (px := fun x => decide (0 ≤ x) && decide (x < W)) (py := fun y => decide (0 ≤ y) && decide (y < H)) (fun x y => rfl), filter_range 0 W _ _ _ rfl, filter_range 0 H _ _ _ rfl, mx_comm a, mx_comm b, mn_comm _ W, mn_comm _ H, Int.zero_add, Int.zero_add]
  rw [e]
  show dotsO (if (decide (mnI (0 + W) (a + c) ≤ mxI 0 a) || decide (mnI (0 + H) (b + d) ≤ mxI 0 b)) = true then none else some [mxI 0 a, mxI 0 b, mnI (0 + W) (a + c) - mxI 0 a, mnI (0 + H) (b + d) - mxI 0 b]) = _
  split
  · rename_i q
    simp only [Bool.or_eq_true, decide_eq_true_eq] at q
    rcases q with q | q
    · rw [range_nil q, grid_nil']; rfl
    · rw [range_nil (a := mxI 0 b) q]; rfl
  · show dotsP _ _ _ _ = _
    rw [dots_grid]
    have h1 : ∀ x y : Int, x + (y - x) = y := fun x y => by omega
    rw [h1, h1]
theorem dots_len {l t w h : Int} (hw : w ≤ 10) (hh : h ≤ 10) : (dotsP l t w h).length ≤ 100 := by
  have := len_flat (n := 10) (l := rangeN t (t + h)) (f := fun y => (rangeN l (l + w)).map fun x => [x, y]) fun y _ => by
    rw [List.length_map, range_len]; omega
  rw [range_len] at this
  have h2 : (t + h - t).toNat ≤ 10 := by omega
  have h3 := Nat.mul_le_mul_right 10 h2
  exact Nat.le_trans this (by omega)
theorem common_some {W H a b c d : Int} {o : List Int} (hW : 1 ≤ W ∧ W ≤ 5) (hH : 1 ≤ H ∧ H ≤ 5) (ha : -10 ≤ a ∧ a ≤ 10) (hb : -10 ≤ b ∧ b ≤ 10) (hc : 1 ≤ c ∧ c ≤ 10) (hd : 1 ≤ d ∧ d ≤ 10) (h : commonP [0, 0, W, H] [a, b, c, d] = some o) :
    ∃ l t w h, o = [l, t, w, h] ∧ (-1000 ≤ l ∧ l ≤ 1000) ∧ (-1000 ≤ t ∧ t ≤ 1000) ∧ (-1000 ≤ w ∧ w ≤ 10) ∧ (-1000 ≤ h ∧ h ≤ 10) := by
  unfold commonP at h
  dsimp only at h
  split at h
  · cases h
  · cases h
    refine ⟨_, _, _, _, rfl, ?_, ?_, ?_, ?_⟩ <;> (unfold mxI; try unfold mnI) <;> (repeat' split) <;> omega
section
variable {prog : Program} {w : World} {B : Heap} {A : Around} {O : Store} {mg mb : Str → Option Value}
theorem dots_opt (P : Prg B mg mb) (hA : Room A 1) {o : Option (List Int)} (ho : ∀ q, o = some q → ∃ l t w h, q = [l, t, w, h] ∧ (-1000 ≤ l ∧ l ≤ 1000) ∧ (-1000 ≤ t ∧ t ≤ 1000) ∧ (-1000 ≤ w ∧ w ≤ 10) ∧ (-1000 ≤ h ∧ h ≤ 10)) {K : V → Store → Prop} (h : K (.fresh ((dotsO o).map Sum.inr)) O) : Ct prog w B mg A (stAt 16) [.opt o] O K := by
  cases o with
  | none => exact dots_none P hA h
  | some q =>
    obtain ⟨l, t, w', h', rfl, h1, h2, h3, h4⟩ := ho q rfl
    exact dots_some P hA h1 h2 (by omega) (by omega) (Nat.le_trans (dots_len h3.2 h4.2) (by decide)) h
end

theorem dots_pair {l t w h : Int} {z : List Int} (hz : z ∈ dotsP l t w h) : ∃ x y, z = [x, y] := by
  unfold dotsP at hz
  obtain ⟨y, _, hz⟩ := List.mem_flatMap.mp hz
  obtain ⟨x, _, rfl⟩ := List.mem_map.mp hz
  exact ⟨x, y, rfl⟩
section
variable {prog : Program} {w : World} {B : Heap} {A : Around} {mg mb : Str → Option Value} {L : Addr} {cl : List (Str × Addr)} {f : Addr} {cd : Value}
theorem law11 (P : Prg B mg mb) (hA : Room A 3) {o_script o_most o_pieces o_x o_y o_at o_grain o_box o_touched o_dot_y o_dot_x o_across o_told : Option V} {ts : List (List Int)} {W H S a b c d p q : Int} (hW : 1 ≤ W ∧ W ≤ 5) (hH : 1 ≤ H ∧ H ≤ 5) (hS : 1 ≤ S ∧ S ≤ 100) (hr : ∀ q ∈ ts, RectOk q) (hz : ts.length ≤ 100000) (hdz : ∀ q ∈ ts, (dotsQ q).length ≤ 64)
    (ha : -10 ≤ a ∧ a ≤ 10) (hb : -10 ≤ b ∧ b ≤ 10) (hc : 1 ≤ c ∧ c ≤ 10) (hd : 1 ≤ d ∧ d ≤ 10) :
    WS prog w B A (lawEnv L cl f cd) (lawRest 11) ([("script", o_script), ("source", some (.own 0)), ("width", some (.int W)), ("height", some (.int H)), ("size", some (.int S)), ("whole", some (.tup [0, 0, W, H])), ("tiles", some (.lst (ts.map Sum.inr))), ("most", o_most), ("pieces", o_pieces), ("other", some (.tup [a, b, c, d])), ("both", some (.lst (((dotsP a b c d).filter (inB W H)).map Sum.inr))), ("x", o_x), ("y", o_y), ("at", o_at), ("grain", o_grain), ("box", o_box), ("touched", o_touched), ("dot_y", o_dot_y), ("dot_x", o_dot_x), ("across", o_across), ("told", o_told)] : Rho) [[.inl p, .inl q]] TT := by
  have fin : WS prog w B A (lawEnv L cl f cd) (lawRest 12) ([("script", o_script), ("source", some (.own 0)), ("width", some (.int W)), ("height", some (.int H)), ("size", some (.int S)), ("whole", some (.tup [0, 0, W, H])), ("tiles", some (.lst (ts.map Sum.inr))), ("most", o_most), ("pieces", o_pieces), ("other", some (.tup [a, b, c, d])), ("both", some (.lst (((dotsP a b c d).filter (inB W H)).map Sum.inr))), ("x", o_x), ("y", o_y), ("at", o_at), ("grain", o_grain), ("box", o_box), ("touched", o_touched), ("dot_y", o_dot_y), ("dot_x", o_dot_x), ("across", o_across), ("told", o_told)] : Rho) [[.inl p, .inl q]] TT := law12 P hA (by omega) hS hr hz hdz (by omega) (by omega) (by omega) (by omega) (Nat.le_trans (dots_len hc.2 hd.2) (by decide))
  refine WS_cons ?_
  walk_at "ee"
  refine common_ok P (hA.less (by decide)) ?_
  walk_at "ee"
  refine dots_opt P (hA.less (by decide)) (fun o ho => common_some hW hH ha hb hc hd ho) ?_
  walk_at "ee"
  · refine common_ok P (hA.less (by decide)) ?_
    walk_at "ee"
    refine common_ok P (hA.less (by decide)) ?_
    walk_at "ee"
    · exact WS_nil (then_next fin)
    · have hq := ‹(!decide (commonP [0, 0, W, H] [a, b, c, d] = commonP [a, b, c, d] [0, 0, W, H])) = true›
      rw [common_symm] at hq
      exact absurd hq (by simp)
  · have hq := ‹(!decide (((dotsO (commonP [0, 0, W, H] [a, b, c, d])).map Sum.inr : List It) = ((dotsP a b c d).filter (inB W H)).map Sum.inr)) = true›
    rw [common_fact] at hq
    exact absurd hq (by simp)
theorem law10 (P : Prg B mg mb) (hA : Room A 3) {o_script o_most o_pieces o_both o_x o_y o_at o_grain o_box o_touched o_dot_y o_dot_x o_across o_told : Option V} {ts : List (List Int)} {W H S a b c d p q : Int} (hW : 1 ≤ W ∧ W ≤ 5) (hH : 1 ≤ H ∧ H ≤ 5) (hS : 1 ≤ S ∧ S ≤ 100) (hr : ∀ q ∈ ts, RectOk q) (hz : ts.length ≤ 100000) (hdz : ∀ q ∈ ts, (dotsQ q).length ≤ 64)
    (ha : -10 ≤ a ∧ a ≤ 10) (hb : -10 ≤ b ∧ b ≤ 10) (hc : 1 ≤ c ∧ c ≤ 10) (hd : 1 ≤ d ∧ d ≤ 10) :
    WS prog w B A (lawEnv L cl f cd) (lawRest 10) ([("script", o_script), ("source", some (.own 0)), ("width", some (.int W)), ("height", some (.int H)), ("size", some (.int S)), ("whole", some (.tup [0, 0, W, H])), ("tiles", some (.lst (ts.map Sum.inr))), ("most", o_most), ("pieces", o_pieces), ("other", some (.tup [a, b, c, d])), ("both", o_both), ("x", o_x), ("y", o_y), ("at", o_at), ("grain", o_grain), ("box", o_box), ("touched", o_touched), ("dot_y", o_dot_y), ("dot_x", o_dot_x), ("across", o_across), ("told", o_told)] : Rho) [[.inl p, .inl q]] TT := by
  have dl := Nat.le_trans (dots_len (l := a) (t := b) hc.2 hd.2) (by decide : 100 ≤ 100000)
  refine WS_cons ?_
  refine W1_comp ["dot"] [("height", .int H), ("width", .int W)] hA.h fits1 (by show compOk _ _ ["height", "width"] = true; decide +kernel) (CapsOk.all (.cons (by walk_at "mem") (by walk_at "kind") (.cons (by walk_at "mem") (by walk_at "kind") .nil))) ?_ (by first | kernel_rfl | rfl)
  walk_at "ee"
  refine dots_some P (hA.less (by decide)) (by omega) (by omega) (by omega) (by omega) dl ?_
  refine ⟨_, .inr rfl, ?_⟩
  intro C cl'
  refine cloop_ind mono1 (fun xs ρ' O' => ∃ zs acc o1, xs = zs.map Sum.inr ∧ ρ' = ([("dot", o1), ("height", some (.int H)), ("width", some (.int W))] : Rho) ∧ O' = [[.inl p, .inl q], acc.map Sum.inr] ∧ (∀ z ∈ zs, z ∈ dotsP a b c d) ∧ acc ++ zs.filter (inB W H) = (dotsP a b c d).filter (inB W H))
    (fun ρ' O' hI => ?_) (fun x xs ρ' O' hI => ?_) ⟨dotsP a b c d, [], none, rfl, rfl, rfl, fun _ h => h, rfl⟩
  · obtain ⟨zs, acc, o1, e1, rfl, rfl, _, e2⟩ := hI
    cases zs with
    | cons => cases e1
    | nil =>
      have e3 : acc = (dotsP a b c d).filter (inB W H) := by simpa using e2
      subst e3
      walk_at "b"
      walk_at "b"
      exact law11 P hA hW hH hS hr hz hdz ha hb hc hd
  · obtain ⟨zs, acc, o1, e1, rfl, rfl, hm, e2⟩ := hI
    cases zs with
    | nil => cases e1
    | cons z zs =>
      obtain ⟨rfl, rfl⟩ := List.cons.inj e1
      obtain ⟨x, y, rfl⟩ := dots_pair (hm z (.head _))
      have l2 := congrArg List.length e2
      have l3 := List.length_filter_le (inB W H) (dotsP a b c d)
      simp only [List.length_append] at l2
      have yes : inB W H [x, y] = true → acc ++ [[x, y]] ++ zs.filter (inB W H) = (dotsP a b c d).filter (inB W H) := fun q => by
        rw [← e2, List.filter_cons, if_pos q, List.append_assoc]; rfl
      have no : inB W H [x, y] = false → acc ++ zs.filter (inB W H) = (dotsP a b c d).filter (inB W H) := fun q => by
        rw [← e2, List.filter_cons, if_neg (by rw [q]; decide)]
      refine ⟨_, .name (by walk_at "kind") .here, ?_⟩
      unfold Bd1
      walk_at "ee"
      · unfold Bd0
        walk_at "ee"
        refine x_app (xs := acc.map Sum.inr) rfl (by simp; omega) ?_
        refine ⟨zs, acc ++ [[x, y]], _, rfl, rfl, ?_, fun q hq => hm q (.tail _ hq), yes ?_⟩
        · rw [List.map_append]; rfl
        · show ((decide (0 ≤ x) && decide (x < W)) && (decide (0 ≤ y) && decide (y < H))) = true
          rw [‹decide (0 ≤ x) = true›, ‹decide (x < W) = true›, ‹decide (0 ≤ y) = true›, ‹decide (y < H) = true›]; rfl
      all_goals
        refine ⟨zs, acc, _, rfl, rfl, rfl, fun q hq => hm q (.tail _ hq), no ?_⟩
        show ((decide (0 ≤ x) && decide (x < W)) && (decide (0 ≤ y) && decide (y < H))) = false
        first
          | (rw [‹decide (0 ≤ x) = false›]; rfl)
          | (rw [‹decide (x < W) = false›, Bool.and_false]; rfl)
          | (rw [‹decide (0 ≤ y) = false›, Bool.false_and, Bool.and_false])
          | (rw [‹decide (y < H) = false›, Bool.and_false, Bool.and_false])
theorem law9 (P : Prg B mg mb) (hA : Room A 3) {o_script o_most o_pieces o_other o_both o_x o_y o_at o_grain o_box o_touched o_dot_y o_dot_x o_across o_told : Option V} {ts : List (List Int)} {W H S p q : Int} (hW : 1 ≤ W ∧ W ≤ 5) (hH : 1 ≤ H ∧ H ≤ 5) (hS : 1 ≤ S ∧ S ≤ 100) (hr : ∀ q ∈ ts, RectOk q) (hz : ts.length ≤ 100000) (hdz : ∀ q ∈ ts, (dotsQ q).length ≤ 64) :
    WS prog w B A (lawEnv L cl f cd) (lawRest 9) ([("script", o_script), ("source", some (.own 0)), ("width", some (.int W)), ("height", some (.int H)), ("size", some (.int S)), ("whole", some (.tup [0, 0, W, H])), ("tiles", some (.lst (ts.map Sum.inr))), ("most", o_most), ("pieces", o_pieces), ("other", o_other), ("both", o_both), ("x", o_x), ("y", o_y), ("at", o_at), ("grain", o_grain), ("box", o_box), ("touched", o_touched), ("dot_y", o_dot_y), ("dot_x", o_dot_x), ("across", o_across), ("told", o_told)] : Rho) [[.inl p, .inl q]] TT := by
  refine WS_cons ?_
  refine W1_Assign ?_
  walk_at "ee"
  obtain ⟨t1, t2⟩ := take_lt p q (t := 5) (by decide)
  refine take_ok P (hA.less (by decide)) (k := 0) (a := p) (b := q) rfl (by decide) (by decide) ?_
  generalize (takeP p q 5).1 = v1 at t1 t2 ⊢
  generalize (takeP p q 5).2.1 = p1
  generalize (takeP p q 5).2.2 = q1
  walk_at "ee"
  obtain ⟨t3, t4⟩ := take_lt p1 q1 (t := 5) (by decide)
  refine take_ok P (hA.less (by decide)) (k := 0) (a := p1) (b := q1) rfl (by decide) (by decide) ?_
  generalize (takeP p1 q1 5).1 = v2 at t3 t4 ⊢
  generalize (takeP p1 q1 5).2.1 = p2
  generalize (takeP p1 q1 5).2.2 = q2
  walk_at "ee"
  obtain ⟨t5, t6⟩ := take_lt p2 q2 (t := 4) (by decide)
  refine take_ok P (hA.less (by decide)) (k := 0) (a := p2) (b := q2) rfl (by decide) (by decide) ?_
  generalize (takeP p2 q2 4).1 = v3 at t5 t6 ⊢
  generalize (takeP p2 q2 4).2.1 = p3
  generalize (takeP p2 q2 4).2.2 = q3
  walk_at "ee"
  obtain ⟨t7, t8⟩ := take_lt p3 q3 (t := 4) (by decide)
  refine take_ok P (hA.less (by decide)) (k := 0) (a := p3) (b := q3) rfl (by decide) (by decide) ?_
  generalize (takeP p3 q3 4).1 = v4 at t7 t8 ⊢
  generalize (takeP p3 q3 4).2.1 = p4
  generalize (takeP p3 q3 4).2.2 = q4
  walk_at "ee"
  exact law10 P hA hW hH hS hr hz hdz (by omega) (by omega) (by omega) (by omega)
end

theorem mem_len {α β : Type} {f : α → List β} {q : α} : ∀ {l : List α}, q ∈ l → (f q).length ≤ (l.flatMap f).length
  | a :: l, h => by
    rw [List.flatMap_cons, List.length_append]
    rcases List.mem_cons.mp h with rfl | h
    · omega
    · have := mem_len (f := f) h
      omega
theorem dots_use {w h : Nat} (hc : dotsB w h = true) : sortT (dotsP 0 0 w h) = some (sortedDots w h) ∧ (dotsP 0 0 w h).length = w * h := by
  unfold dotsB at hc
  simp only [Bool.and_eq_true, decide_eq_true_eq] at hc
  exact hc
theorem cover_use {w h : Nat} {ts : List (List Int)} (hd : dotsB w h = true) (hc : coverB w h ts = true) : (∀ q ∈ ts, RectOk q) ∧ sortT (ts.flatMap dotsQ) = some (sortedDots w h) ∧ clearP [] ts = true ∧ (ts.map areaP).sum = ((w * h : Nat) : Int) ∧ (ts.flatMap dotsQ).length < 64 ∧ ts.length < 64 := by
  unfold coverB at hc
  simp only [Bool.and_eq_true, Bool.or_eq_true, decide_eq_true_eq, List.all_eq_true] at hc
  refine ⟨fun q hq => rectOk_of (hc.1.1.1.1.1 q hq), ?_, hc.1.1.1.2, hc.1.1.2, hc.1.2, hc.2⟩
  rcases hc.1.1.1.1.2 with e | e
  · rw [e]; exact (dots_use hd).1
  · exact e
theorem piece_use {w h m : Nat} (hp : pieceB w h m = true) : ∃ ps, halvesRun 60 m [] [[0, 0, (w : Int), (h : Int)]] = some ps ∧ (∀ q ∈ ps, RectOk q) ∧ coverB w h (ps.filter sideB) = true ∧ (∀ q ∈ ps, bigB m q = false) ∧ ps.length < 64 := by
  unfold pieceB at hp
  split at hp
  · rename_i ps e
    simp only [Bool.and_eq_true, List.all_eq_true, Bool.not_eq_true', List.any_eq_false, decide_eq_true_eq] at hp
    exact ⟨ps, e, fun q hq => rectOk_of (hp.1.1.2 q hq), hp.1.2, fun q hq => by simpa using hp.2 q hq, hp.1.1.1⟩
  · cases hp
theorem lt_six {W : Int} (h : 1 ≤ W ∧ W ≤ 5) : ∃ w : Nat, W = (w : Int) ∧ w ∈ [1, 2, 3, 4, 5] := by
  refine ⟨W.toNat, by omega, ?_⟩
  have : W.toNat = 1 ∨ W.toNat = 2 ∨ W.toNat = 3 ∨ W.toNat = 4 ∨ W.toNat = 5 := by omega
  simpa using this
section
variable {prog : Program} {w : World} {B : Heap} {A : Around} {mg mb : Str → Option Value} {L : Addr} {cl : List (Str × Addr)} {f : Addr} {cd : Value}
theorem law8 (P : Prg B mg mb) (hA : Room A 3) {o_script o_other o_both o_x o_y o_at o_grain o_box o_touched o_dot_y o_dot_x o_across o_told : Option V} {ts ps : List (List Int)} {W H S M p q : Int} (hW : 1 ≤ W ∧ W ≤ 5) (hH : 1 ≤ H ∧ H ≤ 5) (hS : 1 ≤ S ∧ S ≤ 100) (hr : ∀ q ∈ ts, RectOk q) (hz : ts.length ≤ 100000) (hdz : ∀ q ∈ ts, (dotsQ q).length ≤ 64) (hp : ∀ q ∈ ps, RectOk q) (hpb : ∀ q ∈ ps, bigB M q = false) :
    WS prog w B A (lawEnv L cl f cd) (lawRest 8) ([("script", o_script), ("source", some (.own 0)), ("width", some (.int W)), ("height", some (.int H)), ("size", some (.int S)), ("whole", some (.tup [0, 0, W, H])), ("tiles", some (.lst (ts.map Sum.inr))), ("most", some (.int M)), ("pieces", some (.lst (ps.map Sum.inr))), ("other", o_other), ("both", o_both), ("x", o_x), ("y", o_y), ("at", o_at), ("grain", o_grain), ("box", o_box), ("touched", o_touched), ("dot_y", o_dot_y), ("dot_x", o_dot_x), ("across", o_across), ("told", o_told)] : Rho) [[.inl p, .inl q]] TT := by
  have fin : WS prog w B A (lawEnv L cl f cd) (lawRest 9) ([("script", o_script), ("source", some (.own 0)), ("width", some (.int W)), ("height", some (.int H)), ("size", some (.int S)), ("whole", some (.tup [0, 0, W, H])), ("tiles", some (.lst (ts.map Sum.inr))), ("most", some (.int M)), ("pieces", some (.lst (ps.map Sum.inr))), ("other", o_other), ("both", o_both), ("x", o_x), ("y", o_y), ("at", o_at), ("grain", o_grain), ("box", o_box), ("touched", o_touched), ("dot_y", o_dot_y), ("dot_x", o_dot_x), ("across", o_across), ("told", o_told)] : Rho) [[.inl p, .inl q]] TT := law9 P hA hW hH hS hr hz hdz
  refine WS_cons ?_
  walk_at "ee"
  refine WE_comp ["one"] [("most", .int M)] hA.h fits1 (by show compOk _ _ ["most"] = true; decide +kernel) (CapsOk.all (.cons (by walk_at "mem") (by walk_at "kind") .nil)) ?_
  walk_at "ee"
  refine ⟨_, .inl rfl, ?_⟩
  intro C cl'
  refine cloop_ind mono1 (fun xs ρ' O' => ∃ zs o1, xs = zs.map Sum.inr ∧ ρ' = ([("one", o1), ("most", some (.int M))] : Rho) ∧ O' = [[.inl p, .inl q], []] ∧ ∀ z ∈ zs, z ∈ ps)
    (fun ρ' O' hI => ?_) (fun x xs ρ' O' hI => ?_) ⟨ps, none, rfl, rfl, rfl, fun _ h => h⟩
  · obtain ⟨zs, o1, e1, rfl, rfl, _⟩ := hI
    show WE prog w B A _ _ _ [[.inl p, .inl q]] (fun b O₂ => Op2 prog w B A O₂ _ (.fresh []) b _)
    walk_at "ee"
    exact WS_nil (then_next fin)
  · obtain ⟨zs, o1, e1, rfl, rfl, hm⟩ := hI
    cases zs with
    | nil => cases e1
    | cons z zs =>
      obtain ⟨rfl, rfl⟩ := List.cons.inj e1
      obtain ⟨a, b, c, d, rfl, ha, hb, hc, hd⟩ := hp z (hm z (.head _))
      have nb := hpb _ (hm _ (.head _))
      replace nb : decide (M < c * d) = false := nb
      refine ⟨_, .name (by walk_at "kind") .here, ?_⟩
      unfold Bd1
      walk_at "ee"
      · exact absurd (nb.symm.trans ‹decide (M < c * d) = true›) (by decide)
      · exact ⟨zs, _, rfl, rfl, rfl, fun q hq => hm q (.tail _ hq)⟩
theorem law7 (P : Prg B mg mb) (hA : Room A 3) {o_script o_other o_both o_x o_y o_at o_grain o_box o_touched o_dot_y o_dot_x o_across o_told : Option V} {ts ps : List (List Int)} {W H S M p q : Int} (hW : 1 ≤ W ∧ W ≤ 5) (hH : 1 ≤ H ∧ H ≤ 5) (hS : 1 ≤ S ∧ S ≤ 100) (hr : ∀ q ∈ ts, RectOk q) (hz : ts.length ≤ 100000) (hdz : ∀ q ∈ ts, (dotsQ q).length ≤ 64) (hp : ∀ q ∈ ps, RectOk q) (hpb : ∀ q ∈ ps, bigB M q = false) {wn hn : Nat} (hw : W = wn) (hh : H = hn)
    (hcv : coverB wn hn (ps.filter sideB) = true) (hd0 : dotsB wn hn = true) (hpz : ps.length ≤ 100000) :
    WS prog w B A (lawEnv L cl f cd) (lawRest 7) ([("script", o_script), ("source", some (.own 0)), ("width", some (.int W)), ("height", some (.int H)), ("size", some (.int S)), ("whole", some (.tup [0, 0, W, H])), ("tiles", some (.lst (ts.map Sum.inr))), ("most", some (.int M)), ("pieces", some (.lst (ps.map Sum.inr))), ("other", o_other), ("both", o_both), ("x", o_x), ("y", o_y), ("at", o_at), ("grain", o_grain), ("box", o_box), ("touched", o_touched), ("dot_y", o_dot_y), ("dot_x", o_dot_x), ("across", o_across), ("told", o_told)] : Rho) [[.inl p, .inl q]] TT := by
  have fin : WS prog w B A (lawEnv L cl f cd) (lawRest 8) ([("script", o_script), ("source", some (.own 0)), ("width", some (.int W)), ("height", some (.int H)), ("size", some (.int S)), ("whole", some (.tup [0, 0, W, H])), ("tiles", some (.lst (ts.map Sum.inr))), ("most", some (.int M)), ("pieces", some (.lst (ps.map Sum.inr))), ("other", o_other), ("both", o_both), ("x", o_x), ("y", o_y), ("at", o_at), ("grain", o_grain), ("box", o_box), ("touched", o_touched), ("dot_y", o_dot_y), ("dot_x", o_dot_x), ("across", o_across), ("told", o_told)] : Rho) [[.inl p, .inl q]] TT := law8 P hA hW hH hS hr hz hdz hp hpb
  obtain ⟨d1, d2⟩ := dots_use hd0
  obtain ⟨u1, u2, u3, u4, u5, u6⟩ := cover_use hd0 hcv
  have dw : (dotsP 0 0 W H).length < 64 := by
    have : wn * hn ≤ 5 * 5 := Nat.mul_le_mul (by omega) (by omega)
    rw [hw, hh, d2]; omega
  rw [← hw, ← hh] at d1 d2
  refine WS_cons ?_
  refine W1_If ?_
  walk_at "ee"
  refine WE_comp ["one"] [] hA.h fits1 (by decide +kernel) (CapsOk.all .nil) ?_
  walk_at "ee"
  refine ⟨_, .inl rfl, ?_⟩
  intro C cl'
  refine cloop_ind mono1 (fun xs ρ' O' => ∃ zs acc o1, xs = zs.map Sum.inr ∧ ρ' = ([("one", o1)] : Rho) ∧ O' = [[.inl p, .inl q], acc.map Sum.inr] ∧ (∀ z ∈ zs, z ∈ ps) ∧ acc ++ zs.filter sideB = ps.filter sideB)
    (fun ρ' O' hI => ?_) (fun x xs ρ' O' hI => ?_) ⟨ps, [], none, rfl, rfl, rfl, fun _ h => h, rfl⟩
  · obtain ⟨zs, acc, o1, e1, rfl, rfl, _, e2⟩ := hI
    cases zs with
    | cons => cases e1
    | nil =>
      have e3 : acc = ps.filter sideB := by simpa using e2
      subst e3
      show WL prog w B A _ _ _ _ [[.inl p, .inl q]] (fun vs O₂ => Ct prog w B mg A (stAt 17) (.fresh ((ps.filter sideB).map Sum.inr) :: vs) O₂ _)
      walk_at "ee"
      refine dots_some P (hA.less (by decide)) (by omega) (by omega) (by omega) (by omega) (by omega) ?_
      walk_at "ee"
      refine once_ok P hA u1 (by omega) u2 d1 u5 dw dotsP_ne u3 (u4.trans (by rw [d2])) rfl rfl ?_
      walk_at "ee"
      exact WS_nil (then_next fin)
  · obtain ⟨zs, acc, o1, e1, rfl, rfl, hm, e2⟩ := hI
    cases zs with
    | nil => cases e1
    | cons z zs =>
      obtain ⟨rfl, rfl⟩ := List.cons.inj e1
      obtain ⟨a, b, c, d, rfl, ha, hb, hc, hd⟩ := hp z (hm z (.head _))
      have l2 := congrArg List.length e2
      have l3 := List.length_filter_le sideB ps
      simp only [List.length_append] at l2
      refine ⟨_, .name (by walk_at "kind") .here, ?_⟩
      unfold Bd1
      walk_at "ee"
      · unfold Bd0
        walk_at "ee"
        refine x_app (xs := acc.map Sum.inr) rfl (by simp; omega) ?_
        refine ⟨zs, acc ++ [[a, b, c, d]], _, rfl, rfl, ?_, fun q hq => hm q (.tail _ hq), ?_⟩
        · rw [List.map_append]; rfl
        · have hq : sideB [a, b, c, d] = true := ‹decide (0 < c) = true›
          rw [← e2, List.filter_cons, if_pos hq, List.append_assoc]; rfl
      · refine ⟨zs, acc, _, rfl, rfl, rfl, fun q hq => hm q (.tail _ hq), ?_⟩
        have hq : sideB [a, b, c, d] = false := ‹decide (0 < c) = false›
        rw [← e2, List.filter_cons, if_neg (by rw [hq]; decide)]
theorem law5 (P : Prg B mg mb) (hA : Room A 3) {o_script o_most o_pieces o_other o_both o_x o_y o_at o_grain o_box o_touched o_dot_y o_dot_x o_across o_told : Option V} {ts : List (List Int)} {W H S p q : Int} (hW : 1 ≤ W ∧ W ≤ 5) (hH : 1 ≤ H ∧ H ≤ 5) (hS : 1 ≤ S ∧ S ≤ 100) (hr : ∀ q ∈ ts, RectOk q) (hz : ts.length ≤ 100000) (hdz : ∀ q ∈ ts, (dotsQ q).length ≤ 64) :
    WS prog w B A (lawEnv L cl f cd) (lawRest 5) ([("script", o_script), ("source", some (.own 0)), ("width", some (.int W)), ("height", some (.int H)), ("size", some (.int S)), ("whole", some (.tup [0, 0, W, H])), ("tiles", some (.lst (ts.map Sum.inr))), ("most", o_most), ("pieces", o_pieces), ("other", o_other), ("both", o_both), ("x", o_x), ("y", o_y), ("at", o_at), ("grain", o_grain), ("box", o_box), ("touched", o_touched), ("dot_y", o_dot_y), ("dot_x", o_dot_x), ("across", o_across), ("told", o_told)] : Rho) [[.inl p, .inl q]] TT := by
  refine WS_cons ?_
  refine W1_Assign ?_
  walk_at "ee"
  obtain ⟨t1, t2⟩ := take_lt p q (t := 5) (by decide)
  refine take_ok P (hA.less (by decide)) (k := 0) (a := p) (b := q) rfl (by decide) (by decide) ?_
  generalize (takeP p q 5).1 = v1 at t1 t2 ⊢
  generalize (takeP p q 5).2.1 = p1
  generalize (takeP p q 5).2.2 = q1
  obtain ⟨wn, hw, mw⟩ := lt_six hW
  obtain ⟨hn, hh, mh⟩ := lt_six hH
  obtain ⟨mn, hm, mm⟩ := lt_six (W := 1 + v1) (by omega)
  obtain ⟨ps, e1, e2, e3, e4, e5⟩ := piece_use (all_pieces mw mh mm)
  rw [← hw, ← hh, ← hm] at e1
  rw [← hm] at e4
  walk_at "ee"
  refine WS_cons ?_
  refine W1_Assign ?_
  walk_at "ee"
  refine halves_ok P (hA.less (by decide)) (by omega) (by omega) (by omega) (by decide) e1 ?_
  walk_at "b"
  walk_at "b"
  refine law7 P hA hW hH hS hr hz hdz e2 e4 hw hh e3 (all_dots mw mh) (by omega)
end

theorem lt_five {W : Int} (h : 1 ≤ W ∧ W ≤ 4) : ∃ w : Nat, W = (w : Int) ∧ w ∈ [1, 2, 3, 4] := by
  refine ⟨W.toNat, by omega, ?_⟩
  have : W.toNat = 1 ∨ W.toNat = 2 ∨ W.toNat = 3 ∨ W.toNat = 4 := by omega
  simpa using this
theorem tile_use {w h s : Nat} (ht : tileB w h s = true) : coverB w h (tilesP w h s) = true ∧ ∀ q ∈ tilesP w h s, wideB s q = false := by
  unfold tileB at ht
  simp only [Bool.and_eq_true, Bool.not_eq_true', List.any_eq_false] at ht
  exact ⟨ht.1, fun q hq => by simpa using ht.2 q hq⟩
section
variable {prog : Program} {w : World} {B : Heap} {A : Around} {mg mb : Str → Option Value} {L : Addr} {cl : List (Str × Addr)} {f : Addr} {cd : Value}
theorem law4 (P : Prg B mg mb) (hA : Room A 3) {o_script o_most o_pieces o_other o_both o_x o_y o_at o_grain o_box o_touched o_dot_y o_dot_x o_across o_told : Option V} {W H S p q : Int} {wn hn sn : Nat} (hw : W = wn) (hh : H = hn) (hs : S = sn) (mw : wn ∈ [1, 2, 3, 4, 5]) (mh : hn ∈ [1, 2, 3, 4, 5]) (ms : sn ∈ [1, 2, 3, 4]) (hW : 1 ≤ W ∧ W ≤ 5) (hH : 1 ≤ H ∧ H ≤ 5) (hS : 1 ≤ S ∧ S ≤ 100) :
    WS prog w B A (lawEnv L cl f cd) (lawRest 4) ([("script", o_script), ("source", some (.own 0)), ("width", some (.int W)), ("height", some (.int H)), ("size", some (.int S)), ("whole", some (.tup [0, 0, W, H])), ("tiles", some (.lst ((tilesP W H S).map Sum.inr))), ("most", o_most), ("pieces", o_pieces), ("other", o_other), ("both", o_both), ("x", o_x), ("y", o_y), ("at", o_at), ("grain", o_grain), ("box", o_box), ("touched", o_touched), ("dot_y", o_dot_y), ("dot_x", o_dot_x), ("across", o_across), ("told", o_told)] : Rho) [[.inl p, .inl q]] TT := by
  obtain ⟨hcv, hwd⟩ := tile_use (all_tiles mw mh ms)
  obtain ⟨d1, d2⟩ := dots_use (all_dots mw mh)
  obtain ⟨u1, u2, u3, u4, u5, u6⟩ := cover_use (all_dots mw mh) hcv
  have dw : (dotsP 0 0 W H).length < 64 := by
    have : wn * hn ≤ 5 * 5 := Nat.mul_le_mul (by omega) (by omega)
    rw [hw, hh, d2]; omega
  rw [← hw, ← hh] at d1 d2
  rw [← hw, ← hh, ← hs] at u1 u2 u3 u4 u5 u6 hwd
  have fin : WS prog w B A (lawEnv L cl f cd) (lawRest 5) ([("script", o_script), ("source", some (.own 0)), ("width", some (.int W)), ("height", some (.int H)), ("size", some (.int S)), ("whole", some (.tup [0, 0, W, H])), ("tiles", some (.lst ((tilesP W H S).map Sum.inr))), ("most", o_most), ("pieces", o_pieces), ("other", o_other), ("both", o_both), ("x", o_x), ("y", o_y), ("at", o_at), ("grain", o_grain), ("box", o_box), ("touched", o_touched), ("dot_y", o_dot_y), ("dot_x", o_dot_x), ("across", o_across), ("told", o_told)] : Rho) [[.inl p, .inl q]] TT := law5 P hA hW hH hS u1 (by omega) (fun q hq => Nat.le_of_lt (Nat.lt_of_le_of_lt (mem_len hq) u5))
  generalize hts : tilesP W H S = ts at u1 u2 u3 u4 u5 u6 hwd fin ⊢
  refine WS_cons ?_
  refine W1_If ?_
  walk_at "ee"
  refine dots_some P (hA.less (by decide)) (by omega) (by omega) (by omega) (by omega) (by omega) ?_
  walk_at "ee"
  refine once_ok P hA u1 (by omega) u2 d1 u5 dw dotsP_ne u3 (u4.trans (by rw [d2])) rfl rfl ?_
  walk_at "ee"
  refine WE_comp ["one"] [("size", .int S)] hA.h fits1 (by show compOk _ _ ["size"] = true; decide +kernel) (CapsOk.all (.cons (by walk_at "mem") (by walk_at "kind") .nil)) ?_
  walk_at "ee"
  refine ⟨_, .inl rfl, ?_⟩
  intro C cl'
  refine cloop_ind mono1 (fun xs ρ' O' => ∃ zs o1, xs = zs.map Sum.inr ∧ ρ' = ([("one", o1), ("size", some (.int S))] : Rho) ∧ O' = [[.inl p, .inl q], []] ∧ ∀ z ∈ zs, z ∈ ts)
    (fun ρ' O' hI => ?_) (fun x xs ρ' O' hI => ?_) ⟨ts, none, rfl, rfl, rfl, fun _ h => h⟩
  · obtain ⟨zs, o1, e1, rfl, rfl, _⟩ := hI
    show WE prog w B A _ _ _ [[.inl p, .inl q]] (fun b O₂ => Op2 prog w B A O₂ _ (.fresh []) b _)
    walk_at "ee"
    exact WS_nil (then_next fin)
  · obtain ⟨zs, o1, e1, rfl, rfl, hm⟩ := hI
    cases zs with
    | nil => cases e1
    | cons z zs =>
      obtain ⟨rfl, rfl⟩ := List.cons.inj e1
      obtain ⟨a, b, c, d, rfl, ha, hb, hc, hd⟩ := u1 z (hm z (.head _))
      have nb := hwd _ (hm _ (.head _))
      replace nb : (decide (S < c) || decide (S < d)) = false := nb
      rw [Bool.or_eq_false_iff] at nb
      refine ⟨_, .name (by walk_at "kind") .here, ?_⟩
      unfold Bd1
      walk_at "ee"
      · exact ⟨zs, _, rfl, rfl, rfl, fun q hq => hm q (.tail _ hq)⟩
      · exact absurd (nb.2.symm.trans ‹decide (S < d) = true›) (by decide)
      · exact absurd (nb.1.symm.trans ‹decide (S < c) = true›) (by decide)
theorem law1 (P : Prg B mg mb) (hA : Room A 3) {o_script : Option V} {p q : Int} :
    WS prog w B A (lawEnv L cl f cd) (lawRest 1) ([("script", o_script), ("source", some (.own 0)), ("width", none), ("height", none), ("size", none), ("whole", none), ("tiles", none), ("most", none), ("pieces", none), ("other", none), ("both", none), ("x", none), ("y", none), ("at", none), ("grain", none), ("box", none), ("touched", none), ("dot_y", none), ("dot_x", none), ("across", none), ("told", none)] : Rho) [[.inl p, .inl q]] TT := by
  refine WS_cons ?_
  refine W1_Unpack (xs := ["width", "height", "size"]) hA.h (.cons (.cons (.cons .nil))) ?_ (by rfl) (by first | kernel_rfl | rfl)
  walk_at "ee"
  obtain ⟨t1, t2⟩ := take_lt p q (t := 5) (by decide)
  refine take_ok P (hA.less (by decide)) (k := 0) (a := p) (b := q) rfl (by decide) (by decide) ?_
  generalize (takeP p q 5).1 = v1 at t1 t2 ⊢
  generalize (takeP p q 5).2.1 = p1
  generalize (takeP p q 5).2.2 = q1
  walk_at "ee"
  obtain ⟨t3, t4⟩ := take_lt p1 q1 (t := 5) (by decide)
  refine take_ok P (hA.less (by decide)) (k := 0) (a := p1) (b := q1) rfl (by decide) (by decide) ?_
  generalize (takeP p1 q1 5).1 = v2 at t3 t4 ⊢
  generalize (takeP p1 q1 5).2.1 = p2
  generalize (takeP p1 q1 5).2.2 = q2
  walk_at "ee"
  obtain ⟨t5, t6⟩ := take_lt p2 q2 (t := 4) (by decide)
  refine take_ok P (hA.less (by decide)) (k := 0) (a := p2) (b := q2) rfl (by decide) (by decide) ?_
  generalize (takeP p2 q2 4).1 = v3 at t5 t6 ⊢
  generalize (takeP p2 q2 4).2.1 = p3
  generalize (takeP p2 q2 4).2.2 = q3
  obtain ⟨wn, hw, mw⟩ := lt_six (W := 1 + v1) (by omega)
  obtain ⟨hn, hh, mh⟩ := lt_six (W := 1 + v2) (by omega)
  obtain ⟨sn, hs, ms⟩ := lt_five (W := 1 + v3) (by omega)
  obtain ⟨hcv, _⟩ := tile_use (all_tiles mw mh ms)
  obtain ⟨_, _, _, _, _, u6⟩ := cover_use (all_dots mw mh) hcv
  rw [← hw, ← hh, ← hs] at u6
  walk_at "ee"
  refine WS_cons ?_
  refine W1_Assign ?_
  walk_at "ee"
  refine WS_cons ?_
  refine W1_Assign ?_
  walk_at "ee"
  refine tiles_ok P (hA.less (by decide)) (by omega) (by omega) (by omega) (by omega) ?_
  walk_at "b"
  walk_at "b"
  exact law4 P hA hw hh hs mw mh ms (by omega) (by omega) (by omega)
theorem law0 (P : Prg B mg mb) (hA : Room A 3) {ns : List Int} (hz : ns.length ≤ 63) :
    WS prog w B A (lawEnv L cl f cd) (fnBody (stAt 18)) ([("script", some (.lst (ns.map Sum.inl))), ("source", none), ("width", none), ("height", none), ("size", none), ("whole", none), ("tiles", none), ("most", none), ("pieces", none), ("other", none), ("both", none), ("x", none), ("y", none), ("at", none), ("grain", none), ("box", none), ("touched", none), ("dot_y", none), ("dot_x", none), ("across", none), ("told", none)] : Rho) [] TT := by
  refine WS_cons ?_
  refine W1_Own ?_
  walk_at "ee"
  refine pool_ok P (hA.less (by decide)) hz ?_
  walk_at "ee"
  exact law1 P hA
end

section
variable {prog : Program} {w : World} {A : Around} {mg mb : Str → Option Value}
theorem ints_all {h : Heap} {vs : List Value} {ns : List Int} (h1 : IntsAre vs ns) : All2 (ItR h) vs (ns.map Sum.inl) := by
  induction h1 with
  | nil => exact .nil
  | cons n t _ ih => exact .cons ⟨t, rfl⟩ ih
theorem well_list {P : Params} {h : Heap} {a : Addr} {xs : List WData} (w : Well P h (.ref a) (.list xs)) : ∃ vs : List Value, h.get? a = some { cls := .type "list", data := .seq vs.toArray } := by
  cases w with
  | list e _ => exact ⟨_, e⟩
/-- the call of the law gives True and keeps what stood -/
theorem law_call {s : Shared} {E : Value → Shared → Prop} {f a : Addr} {o : Obj} {pm cd doc : Value} {vs : List Value} {ns : List Int} {Q : Value → Shared → Prop} (P : Prg s.heap mg mb) (hA : Room A 4) (hf : s.heap.get? f = some o)
    (hd : o.data = .func (docDef (fnName (stAt 18)) (fnArgs (stAt 18)) (fnBody (stAt 18)) (fnScope (stAt 18)) pm cd doc)) (hcd : s.heap.CodeRec cd (fnName (stAt 18)))
    (ha : s.heap.PlainList a (List.toArray vs)) (hi : IntsAre vs ns) (hz : ns.length ≤ 63)
    (q : ∀ h' tk, (∀ b o, s.heap.get? b = some o → h'.get? b = some o) → Q (.bool true) { s with heap := h', toks := tk }) : wpAny (model prog w) A (call (.ref f) [.ref a]) Q E s := by
  refine call_core (B := s.heap) (n := 3) (ps := ["script"]) (ls := ["source", "width", "height", "size", "whole", "tiles", "most", "pieces", "other", "both", "x", "y", "at", "grain", "box", "touched", "dot_y", "dot_x", "across", "told"]) (vs := [.lst (ns.map Sum.inl)]) (O := []) (K := fun v _ => v = .bool true) P.W hA hf hd hcd (by decide +kernel) rfl (fun vals hl => ?_) (fun A' L cl hA' => ?_) [] s s.heap [.ref a] ⟨fun _ _ e => e, (fun _ h => nomatch h), .nil, .nil⟩ ?_ Q E ?_
  · match vals, hl with
    | [v1], _ => rfl
  · refine (law0 P hA' hz).mono fun fl ρ' O' h => ?_
    have e : fl = .ret (.bool true) := h
    subst e; rfl
  · exact .cons (n1 := s.heap) ⟨a, rfl, (fun h => nomatch h), vs, ha, ints_all hi⟩ (.refl ..) (fun b e => by cases e; obtain ⟨n, e⟩ := ha; exact ⟨_, e⟩) (.nil _)
  · intro v val O' h' tk hk _ K' r
    subst hk
    have e : val = .bool true := r
    subst e
    exact q h' tk fun b o e => K'.get b o (fun h => nomatch h) e
theorem plain_of {P : Params} {h : Heap} {a : Addr} {vs : List Value} {xs : List WData} (l : h.IsList a vs.toArray) (w : Well P h (.ref a) (.list xs)) : h.PlainList a (List.toArray vs) := by
  obtain ⟨us, e⟩ := well_list w
  obtain ⟨o, ho, _, n, hd⟩ := l
  rw [e] at ho
  cases ho
  injection hd with e1 e2
  exact ⟨0, by rw [← e1]; exact e⟩
theorem law_call2 {s : Shared} {E : Value → Shared → Prop} {f a : Addr} {vs : List Value} {ns : List Int} {Q : Value → Shared → Prop} (P : Prg s.heap mg mb) (F : FnIs s.heap mg (stAt 18)) (hm : mg (fnName (stAt 18)) = some (.ref f)) (hA : Room A 4)
    (ha : s.heap.PlainList a (List.toArray vs)) (hi : IntsAre vs ns) (hz : ns.length ≤ 63)
    (q : ∀ h' tk, (∀ b o, s.heap.get? b = some o → h'.get? b = some o) → Q (.bool true) { s with heap := h', toks := tk }) : wpAny (model prog w) A (call (.ref f) [.ref a]) Q E s := by
  obtain ⟨f', o, pm, cd, doc, hm', hf, hd, hcd⟩ := F
  rw [hm] at hm'; cases hm'
  exact law_call P hA hf hd hcd ha hi hz q
theorem room_top : Room callerA 4 := ⟨rfl, by decide, by decide⟩
theorem prg_of {B : Heap} {mg mb : Str → Option Value} (hg : B.Ns mainGlobals mg) (hb : B.Ns builtinsNs mb) (hl : B.NoLimit) (hbi : ∀ x : Str, x ≠ "__name__" → mb x = bootBuiltins x)
    (hfree : ∀ x : Str, x ∈ ([Str.ofString "len", Str.ofString "range", Str.ofString "min", Str.ofString "max", Str.ofString "int", Str.ofString "sum", Str.ofString "sorted", Str.ofString "enumerate"] : List Str) → mg x = none)
    (hfn : ∀ i ∈ [4, 5, 6, 7, 8, 9, 10, 11, 13, 14, 15, 16, 17], FnIs B mg (stAt i)) : Prg B mg mb :=
  ⟨⟨hg, hb, hl, fun x hx => ⟨hfree x hx, hbi x (by
      simp only [List.mem_cons, List.not_mem_nil, or_false] at hx
      rcases hx with rfl | rfl | rfl | rfl | rfl | rfl | rfl | rfl <;> decide)⟩⟩,
    hfn 4 (by decide), hfn 5 (by decide), hfn 6 (by decide), hfn 7 (by decide), hfn 8 (by decide), hfn 9 (by decide), hfn 10 (by decide), hfn 11 (by decide), hfn 13 (by decide), hfn 14 (by decide), hfn 15 (by decide), hfn 16 (by decide), hfn 17 (by decide)⟩
/-- the records of the top, by their place -/
def recIs (r : Option DefRec) (st : Stmt) : Prop := (r.map fun d => (d.name, d.params, d.body, d.scope)) = some (fnName st, fnArgs st, fnBody st, fnScope st)
theorem recIs.out {r : Option DefRec} {st : Stmt} (h : recIs r st) : ∃ d, r = some d ∧ d.name = fnName st ∧ d.params = fnArgs st ∧ d.body = fnBody st ∧ d.scope = fnScope st := by
  unfold recIs at h
  cases r with
  | none => simp at h
  | some d =>
    simp only [Option.map_some, Option.some.injEq, Prod.mk.injEq] at h
    exact ⟨d, rfl, h.1, h.2.1, h.2.2.1, h.2.2.2⟩
theorem fnIs_of {B : Heap} {mg : Str → Option Value} {ds : List DefRec} (h : ∀ d ∈ ds, ∃ a o pm code doc, mg d.name = some (.ref a) ∧ B.get? a = some o ∧ o.data = .func (docDef d.name d.params d.body d.scope pm code doc) ∧ B.CodeRec code d.name) {k : Nat} {st : Stmt} (hr : recIs (nth ds k) st) : FnIs B mg st := by
  obtain ⟨d, e, e1, e2, e3, e4⟩ := hr.out
  obtain ⟨a, o, pm, code, doc, h1, h2, h3, h4⟩ := h d (nth_mem e)
  rw [e1] at h1 h4
  rw [e1, e2, e3, e4] at h3
  exact ⟨a, o, pm, code, doc, h1, h2, h3, h4⟩
theorem goodW_true {c : ClaimW} {cl : Str → Option Addr} {mean : ExcName → Option Value} {args : List WData} {s₁ s' : Shared} (hk : ∀ b o, s₁.heap.get? b = some o → s'.heap.get? b = some o) (hg : s'.gens = #[]) (hn : ∀ cls, c.raises args cls = false) (hp : c.post args (.bool true) args = true) (hos : s'.os = s₁.os) :
    GoodW c cl mean args s₁ (.ok (.ret (.bool true))) s' :=
  ⟨.inl ⟨_, _, [], rfl, hn, .bool true, hp, fun _ => ⟨.nil, fun _ h => nomatch h⟩⟩, hk, hos, hg⟩
end

end Mine

set_option maxRecDepth 100000 in
set_option maxHeartbeats 8000000 in
theorem PySem.Challenge.cw_nu0003_01_holds : PySem.Challenge.rw_nu0003_01.Holds := by
  (w_on; o_law; o_head Hook.none; (case hw => w_witness2); w_strict (
    (skip
     intro w s₀ s₁ mg mb G Y fa o pm cd doc dV kV ho hd hcd hD hmg hg args vals as hpre hlay hrd hwl hlo
     refine Ground.open G ?_
     intro T B D TE TW
     try (refine guard_noD D (by decide +kernel) ?_; clear D)
     try (obtain ⟨_, _, he, B0⟩ := based_of_top T rfl hmg ho hd; have he' : cd = _ := he; subst he'; clear he)
     clear hD
     wrow_args hpre hlay hrd hwl hlo
     have P : Mine.Prg s₁.heap mg mb := by
       refine Mine.prg_of T.g T.b T.nolimit T.builtins (fun x hx => ?_) fun i hi => ?_
       · simp only [List.mem_cons, List.not_mem_nil, or_false] at hx
         rcases hx with rfl | rfl | rfl | rfl | rfl | rfl | rfl | rfl <;> exact T.free _ (by decide +kernel) (by decide +kernel) (by decide +kernel) (by decide +kernel) (by decide +kernel)
       · simp only [List.mem_cons, List.not_mem_nil, or_false] at hi
         rcases hi with rfl | rfl | rfl | rfl | rfl | rfl | rfl | rfl | rfl | rfl | rfl | rfl | rfl
         · exact Mine.fnIs_of T.fn (k := 0) (by unfold Mine.recIs; kernel_rfl)
         · exact Mine.fnIs_of T.fn (k := 1) (by unfold Mine.recIs; kernel_rfl)
         · exact Mine.fnIs_of T.fn (k := 2) (by unfold Mine.recIs; kernel_rfl)
         · exact Mine.fnIs_of T.fn (k := 3) (by unfold Mine.recIs; kernel_rfl)
         · exact Mine.fnIs_of T.fn (k := 4) (by unfold Mine.recIs; kernel_rfl)
         · exact Mine.fnIs_of T.fn (k := 5) (by unfold Mine.recIs; kernel_rfl)
         · exact Mine.fnIs_of T.fn (k := 6) (by unfold Mine.recIs; kernel_rfl)
         · exact Mine.fnIs_of T.fn (k := 7) (by unfold Mine.recIs; kernel_rfl)
         · exact Mine.fnIs_of T.fn (k := 8) (by unfold Mine.recIs; kernel_rfl)
         · exact Mine.fnIs_of T.fn (k := 9) (by unfold Mine.recIs; kernel_rfl)
         · exact Mine.fnIs_of T.fn (k := 10) (by unfold Mine.recIs; kernel_rfl)
         · exact Mine.fnIs_of T.fn (k := 11) (by unfold Mine.recIs; kernel_rfl)
         · exact Mine.fnIs_of T.fn (k := 12) (by unfold Mine.recIs; kernel_rfl)
     refine Mine.law_call2 (f := fa) P (Mine.fnIs_of T.fn (k := 13) (by unfold Mine.recIs; kernel_rfl)) hmg Mine.room_top (Mine.plain_of (by assumption) (by assumption)) (by assumption) ?hz77 ?kk77
     case hz77 => omega
     case kk77 =>
       intro h' tk hk
       refine GoodW.toG (Mine.goodW_true hk hg ?_ ?_ rfl)
       · intro cls; first | rfl | kernel_rfl
       · first | rfl | kernel_rfl)))
