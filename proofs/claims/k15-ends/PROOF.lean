import PyProof.Rows.All
import Wide.All
import OpenK.AllK
import Wide.FinOn
import HandS.ForMost
import HandS.ForExc
import HandS.TupAny
import HandS.Codes
import HandS.Lambda
import HandS.Style
import HandS.Deep
import HandS.IsInst
import HandS.TupLe
import HandS.ExcOwn
import HandS.WordsExc
import HandS.Small
import HandS.ExcIs
import HandS.EndTab
import HandS.Head0
import HandS.Head1
import HandS.Head2
import HandS.HeadHook4
import HandS.Iter
import HandS.More
import HandS.Finally
import HandS.Conv
import PySem.Challenge.RW_oneuseheads_k15_ends_of_kinds
set_option Elab.async false
set_option linter.all false
set_option maxRecDepth 100000
set_option maxHeartbeats 200000
namespace Q
open PySem PySem.Spec PyProof.Rows L2

/-- an exception object that is held on to -/
def excO (a : Addr) (cls : Value) (d : Option Addr) : HO := .ext fun h => ∃ (oe : Obj) (vs : Array Value), h.get? a = some oe ∧ Zc cls d oe ∧ oe.data = .fields vs
/-- tables of code objects that are known -/
abbrev Tb := List (Addr × Str)
/-! ### values, objects, the store -/
inductive Vl where
  | non | bl (b : Bool) | int (i : Int) | str (s : Str) | tup (xs : List Vl) | ref (n : Nat) | gl (x : Str) | ty (t : String) | exc (c f : Str) (v : Vl)
inductive Ob where
  | non | lst (xs : List Vl) | ro (xs : List Vl) | dic (lk : Bool) (kvs : List (Vl × Vl)) | ins (c : Str) (fs : List (Str × Vl))
structure Sto where
  n : Nat
  at_ : Nat → Ob
def Sto.push (S : Sto) (o : Ob) : Sto := ⟨S.n + 1, fun i => if i = S.n then o else S.at_ i⟩
def Sto.set (S : Sto) (k : Nat) (o : Ob) : Sto := ⟨S.n, fun i => if i = k then o else S.at_ i⟩
inductive R (α : Type) where
  | ok (a : α) | exc (c f : Str) (v : Vl)
abbrev M (α : Type) := Sto → Option (R α × Sto)
abbrev En := List (Option Vl)
/-- the flow of a statement -/
inductive Fl where
  | nx | bk | ct | rt (v : Vl) | ex (c f : Str) (v : Vl)
abbrev MS := En → Sto → Option (Fl × En × Sto)
def ret {α : Type} (a : α) : M α := fun S => some (.ok a, S)
def bnd {α β : Type} (m : M α) (k : α → M β) : M β := fun S =>
  match m S with
  | none => none
  | some (.ok a, S') => k a S'
  | some (.exc c f v, S') => some (.exc c f v, S')
def fail {α : Type} : M α := fun _ => none
def ofO {α : Type} : Option α → M α
  | some a => ret a
  | none => fail

def isMut : Ob → Bool
  | .lst _ => true
  | .dic _ _ => true
  | .ins _ _ => true
  | _ => false

/-! ### the relation to the abstract heap -/
section
variable (K : PySem.W.Frag) (mg : Str → Option Value) (T : Tb) (H : Hp) (μ : Nat → Addr) (N : Nat)
mutual
inductive Rp : Vl → V → Prop
  | non : Rp .non .non
  | bl (b : Bool) : Rp (.bl b) (.bl b)
  | int (i : Int) : Rp (.int i) (.int i)
  | str (s : Str) : Rp (.str s) (.str s)
  | tup {xs : List Vl} {a : Addr} {vs : List V} : SqT K H a vs → RpAll xs vs → Rp (.tup xs) (.ref a)
  | ref (n : Nat) : n < N → Rp (.ref n) (.ref (μ n))
  | gl (x : Str) (a : Addr) : mg x = some (.ref a) → Rp (.gl x) (.ref a)
  | ty (t : String) : Rp (.ty t) (.ty t)
  | exc (c : Str) {a C : Addr} : mg c = some (.ref C) → H a = some (excO a (.ref C) none) → Rp (.exc c "" .non) (.ref a)
inductive RpAll : List Vl → List V → Prop
  | nil : RpAll [] []
  | cons {x : Vl} {v : V} {xs : List Vl} {vs : List V} : Rp x v → RpAll xs vs → RpAll (x :: xs) (v :: vs)
end
/-- a key of a dict -/
def keyOf : Vl → Option Key
  | .int i => some (.inl i)
  | .str s => some (.inr s)
  | _ => none
inductive RpK : List (Vl × Vl) → List (Key × V) → Prop
  | nil : RpK [] []
  | cons {k : Vl} {x : Vl} {κ : Key} {v : V} {xs : List (Vl × Vl)} {vs : List (Key × V)} : keyOf k = some κ → Rp K mg H μ N x v → RpK xs vs → RpK ((k, x) :: xs) ((κ, v) :: vs)
inductive RpF : List (Str × Vl) → List (Str × V) → Prop
  | nil : RpF [] []
  | cons {f : Str} {x : Vl} {v : V} {xs : List (Str × Vl)} {vs : List (Str × V)} : Rp K mg H μ N x v → RpF xs vs → RpF ((f, x) :: xs) ((f, v) :: vs)
def ObR (a : Addr) : Ob → Prop
  | .non => True
  | .lst xs => ∃ vs, H a = some (.lst vs) ∧ RpAll K mg H μ N xs vs
  | .ro xs => ∃ vs, ((∃ o, H a = some (.frz o (.lst vs))) ∨ (∃ (o : Obj) (its : Array Value) (n : Nat), K.lookup a = some o ∧ o.cls = .type "list" ∧ o.dict = none ∧ o.data = .seq its n ∧ its.size ≤ sizeLine ∧ Vals vs its.toList)) ∧ RpAll K mg H μ N xs vs
  | .dic false kvs => ∃ vs, H a = some (.dK vs) ∧ RpK K mg H μ N kvs vs
  | .dic true kvs => ∃ o vs, H a = some (.frz o (.dK vs)) ∧ RpK K mg H μ N kvs vs
  | .ins c fs => ∃ C dx vs, mg c = some (.ref C) ∧ H a = some (.ins C dx vs) ∧ RpF K mg H μ N fs vs
end
structure SRel (K : PySem.W.Frag) (mg : Str → Option Value) (T : Tb) (H : Hp) (μ : Nat → Addr) (S : Sto) : Prop where
  at_ : ∀ n, n < S.n → ObR K mg H μ S.n (μ n) (S.at_ n)
  inj : ∀ n m, n < S.n → m < S.n → isMut (S.at_ n) = true → isMut (S.at_ m) = true → μ n = μ m → n = m
  tab : LamX.Tabs T H
structure Ext (H : Hp) (μ : Nat → Addr) (N : Nat) (H' : Hp) (μ' : Nat → Addr) (N' : Nat) : Prop where
  tup : ∀ b xs, H b = some (.tup xs) → H' b = some (.tup xs)
  frz : ∀ b o u, H b = some (.frz o u) → H' b = some (.frz o u)
  ext : ∀ b φ, H b = some (.ext φ) → H' b = some (.ext φ)
  le : N ≤ N'
  mu : ∀ n, n < N → μ' n = μ n
structure ERel (K : PySem.W.Frag) (mg : Str → Option Value) (H : Hp) (μ : Nat → Addr) (N : Nat) (ρ : En) (σ : L2.St) : Prop where
  len : ρ.length = σ.length
  at_ : ∀ (i : Nat) (v : Vl), ρ[i]? = some (some v) → ∃ x, σ[i]? = some (some x) ∧ Rp K mg H μ N v x

section
variable {K : PySem.W.Frag} {mg : Str → Option Value} {T : Tb} {H H' H2 : Hp} {μ μ' μ2 : Nat → Addr} {N N' N2 : Nat}
theorem Ext.refl : Ext H μ N H μ N := ⟨fun _ _ h => h, fun _ _ _ h => h, fun _ _ h => h, Nat.le_refl _, fun _ _ => rfl⟩
theorem Ext.trans (a : Ext H μ N H' μ' N') (b : Ext H' μ' N' H2 μ2 N2) : Ext H μ N H2 μ2 N2 :=
  ⟨fun c xs h => b.tup c xs (a.tup c xs h), fun c o u h => b.frz c o u (a.frz c o u h), fun c u h => b.ext c u (a.ext c u h), Nat.le_trans a.le b.le, fun n hn => (b.mu n (Nat.lt_of_lt_of_le hn a.le)).trans (a.mu n hn)⟩
theorem Ext.sqT (e : Ext H μ N H' μ' N') {a : Addr} {vs : List V} (h : SqT K H a vs) : SqT K H' a vs := by
  rcases h with (h | ⟨o, h⟩) | h
  · exact .inl (.inl (e.tup _ _ h))
  · exact .inl (.inr ⟨o, e.frz _ _ _ h⟩)
  · exact .inr h
mutual
theorem Rp.ext (e : Ext H μ N H' μ' N') : ∀ {x : Vl} {v : V}, Rp K mg H μ N x v → Rp K mg H' μ' N' x v
  | _, _, .non => .non
  | _, _, .bl b => .bl b
  | _, _, .int b => .int b
  | _, _, .str b => .str b
  | _, _, .tup h a => .tup (e.sqT h) (RpAll.ext e a)
  | _, _, .ref n h => by rw [← e.mu n h]; exact .ref n (Nat.lt_of_lt_of_le h e.le)
  | _, _, .gl x a h => .gl x a h
  | _, _, .ty t => .ty t
  | _, _, .exc c h1 h2 => .exc c h1 (e.ext _ _ h2)
theorem RpAll.ext (e : Ext H μ N H' μ' N') : ∀ {x : List Vl} {v : List V}, RpAll K mg H μ N x v → RpAll K mg H' μ' N' x v
  | _, _, .nil => .nil
  | _, _, .cons h a => .cons (Rp.ext e h) (RpAll.ext e a)
end
theorem RpK.ext (e : Ext H μ N H' μ' N') {x : List (Vl × Vl)} {v : List (Key × V)} (h : RpK K mg H μ N x v) : RpK K mg H' μ' N' x v := by
  induction h with
  | nil => exact .nil
  | cons k r _ ih => exact .cons k (r.ext e) ih
theorem RpF.ext (e : Ext H μ N H' μ' N') {x : List (Str × Vl)} {v : List (Str × V)} (h : RpF K mg H μ N x v) : RpF K mg H' μ' N' x v := by
  induction h with
  | nil => exact .nil
  | cons r _ ih => exact .cons (r.ext e) ih
theorem ERel.ext (e : Ext H μ N H' μ' N') {ρ : En} {σ : L2.St} (h : ERel K mg H μ N ρ σ) : ERel K mg H' μ' N' ρ σ :=
  ⟨h.len, fun i v q => let ⟨x, h1, h2⟩ := h.at_ i v q; ⟨x, h1, h2.ext e⟩⟩
theorem RpAll.length {x : List Vl} {v : List V} (h : RpAll K mg H μ N x v) : x.length = v.length := by
  induction x generalizing v with
  | nil => cases h; rfl
  | cons y ys ih => cases h with | cons _ h2 => simp [ih h2]
theorem RpAll.get : ∀ {xs : List Vl} {vs : List V} {i : Nat} {x : Vl}, RpAll K mg H μ N xs vs → xs[i]? = some x → ∃ v, vs[i]? = some v ∧ Rp K mg H μ N x v
  | _, _, _, _, .nil, h => by simp at h
  | _, _, 0, _, .cons h _, e => by simp at e; subst e; exact ⟨_, rfl, h⟩
  | _, _, i + 1, x, .cons _ t, e => by
    obtain ⟨v, h1, h2⟩ := RpAll.get (i := i) t (by simpa using e)
    exact ⟨v, by simpa using h1, h2⟩
theorem RpAll.append : ∀ {xs ys : List Vl} {vs ws : List V}, RpAll K mg H μ N xs vs → RpAll K mg H μ N ys ws → RpAll K mg H μ N (xs ++ ys) (vs ++ ws)
  | _, _, _, _, .nil, h => h
  | _, _, _, _, .cons h t, k => .cons h (RpAll.append t k)
theorem RpAll.take : ∀ {xs : List Vl} {vs : List V} (n : Nat), RpAll K mg H μ N xs vs → RpAll K mg H μ N (xs.take n) (vs.take n)
  | _, _, 0, _ => by simp; exact .nil
  | _, _, _ + 1, .nil => .nil
  | _, _, n + 1, .cons h t => .cons h (RpAll.take n t)
theorem RpAll.drop : ∀ {xs : List Vl} {vs : List V} (n : Nat), RpAll K mg H μ N xs vs → RpAll K mg H μ N (xs.drop n) (vs.drop n)
  | _, _, 0, h => h
  | _, _, _ + 1, .nil => .nil
  | _, _, n + 1, .cons h t => RpAll.drop n t
theorem RpAll.reverse {xs : List Vl} {vs : List V} (h : RpAll K mg H μ N xs vs) : RpAll K mg H μ N xs.reverse vs.reverse := by
  induction xs generalizing vs with
  | nil => cases h; exact .nil
  | cons y ys ih => cases h with | cons h1 h2 => rw [List.reverse_cons, List.reverse_cons]; exact (ih h2).append (.cons h1 .nil)
theorem RpAll.dropLast {xs : List Vl} {vs : List V} (h : RpAll K mg H μ N xs vs) : RpAll K mg H μ N xs.dropLast vs.dropLast := by
  rw [List.dropLast_eq_take, List.dropLast_eq_take, ← h.length]; exact h.take _
theorem RpAll.set : ∀ {xs : List Vl} {vs : List V} (i : Nat) {x : Vl} {v : V}, RpAll K mg H μ N xs vs → Rp K mg H μ N x v → RpAll K mg H μ N (xs.set i x) (vs.set i v)
  | _, _, _, _, _, .nil, _ => .nil
  | _, _, 0, _, _, .cons _ t, r => .cons r t
  | _, _, i + 1, _, _, .cons h t, r => .cons h (RpAll.set i t r)
theorem ERel.set {ρ : En} {σ : L2.St} (h : ERel K mg H μ N ρ σ) (i : Nat) {x : Vl} {v : V} (r : Rp K mg H μ N x v) : ERel K mg H μ N (ρ.set i (some x)) (σ.set i (some v)) := by
  refine ⟨by simp [h.len], fun j w q => ?_⟩
  by_cases e : i = j
  · subst e
    by_cases hl : i < ρ.length
    · rw [List.getElem?_set_self hl] at q
      cases q
      exact ⟨v, by rw [List.getElem?_set_self (by rw [← h.len]; exact hl)], r⟩
    · rw [List.getElem?_eq_none (by simpa using hl)] at q; cases q
  · rw [List.getElem?_set_ne e] at q
    obtain ⟨y, h1, h2⟩ := h.at_ j w q
    exact ⟨y, by rw [List.getElem?_set_ne e]; exact h1, h2⟩
end

/-! ### the heap grows, the store with it -/
section
variable {K : PySem.W.Frag} {mg : Str → Option Value} {T : Tb} {H : Hp} {μ : Nat → Addr} {S : Sto} {p : Addr} {o : HO} {ob : Ob}
def mu1 (μ : Nat → Addr) (n : Nat) (p : Addr) : Nat → Addr := fun i => if i = n then p else μ i
theorem ext_new (hp : H p = none) (N N' : Nat) (hN : N ≤ N') : Ext H μ N (upd H p o) (mu1 μ N p) N' :=
  ⟨fun b xs h => by rw [upd_ne (ne_of_none h hp)]; exact h, fun b o u h => by rw [upd_ne (ne_of_none h hp)]; exact h, fun b u h => by rw [upd_ne (ne_of_none h hp)]; exact h, hN, fun n hn => by unfold mu1; rw [if_neg (Nat.ne_of_lt hn)]⟩
theorem ext_upd (hp : H p = none) (N : Nat) : Ext H μ N (upd H p o) μ N :=
  ⟨fun b xs h => by rw [upd_ne (ne_of_none h hp)]; exact h, fun b o u h => by rw [upd_ne (ne_of_none h hp)]; exact h, fun b u h => by rw [upd_ne (ne_of_none h hp)]; exact h, Nat.le_refl _, fun _ _ => rfl⟩
theorem ObR.mono {K : PySem.W.Frag} {mg : Str → Option Value} {H H' : Hp} {μ μ' : Nat → Addr} {N N' : Nat} {a : Addr} {ob : Ob} (e : Ext H μ N H' μ' N') (ha : ob ≠ .non → ∀ o, H a = some o → H' a = some o) (h : ObR K mg H μ N a ob) : ObR K mg H' μ' N' a ob := by
  match ob, h, ha with
  | .non, _, _ => trivial
  | .lst xs, ⟨vs, h1, h2⟩, ha => exact ⟨vs, ha (fun z => by cases z) _ h1, h2.ext e⟩
  | .ro xs, ⟨vs, h1, h2⟩, ha => exact ⟨vs, h1.imp (fun ⟨o, q⟩ => ⟨o, ha (fun z => by cases z) _ q⟩) id, h2.ext e⟩
  | .dic false kvs, ⟨vs, h1, h2⟩, ha => exact ⟨vs, ha (fun z => by cases z) _ h1, h2.ext e⟩
  | .dic true kvs, ⟨o, vs, h1, h2⟩, ha => exact ⟨o, vs, ha (fun z => by cases z) _ h1, h2.ext e⟩
  | .ins c fs, ⟨C, dx, vs, h0, h1, h2⟩, ha => exact ⟨C, dx, vs, h0, ha (fun z => by cases z) _ h1, h2.ext e⟩
theorem tabs_upd {T : Tb} {H : Hp} {p : Addr} {o : HO} (t : LamX.Tabs T H) (h1 : ∀ ps, H p ≠ some (.tbl ps)) (h2 : ∀ φ, H p ≠ some (.ext φ)) : LamX.Tabs T (upd H p o) := fun q hq => by
  obtain ⟨ps, a, b, c⟩ := t q hq
  refine ⟨ps, ?_, b, fun pos cv e => ?_⟩
  · rw [upd_ne (fun z => h1 ps (by rw [← z]; exact a))]; exact a
  · obtain ⟨k, e1, e2⟩ := c pos cv e
    refine ⟨k, e1, ?_⟩
    rw [upd_ne (fun z => h2 _ (by rw [← z]; exact e2))]; exact e2
theorem tabs_new {T : Tb} {H : Hp} {p : Addr} {o : HO} (t : LamX.Tabs T H) (h : H p = none) : LamX.Tabs T (upd H p o) := tabs_upd t (fun _ z => by rw [h] at z; cases z) (fun _ z => by rw [h] at z; cases z)
/-- something untracked by the store is laid -/
theorem SRel.laid (r : SRel K mg T H μ S) (hp : H p = none) : SRel K mg T (upd H p o) μ S :=
  ⟨fun n hn => (r.at_ n hn).mono (ext_upd hp _) (fun _ u h => by rw [upd_ne (ne_of_none h hp)]; exact h), r.inj, tabs_new r.tab hp⟩
theorem ObR.some {K : PySem.W.Frag} {mg : Str → Option Value} {H : Hp} {μ : Nat → Addr} {N : Nat} {a : Addr} {ob : Ob} (h : ObR K mg H μ N a ob) (m : isMut ob = true) : ∃ o, H a = some o := by
  cases ob with
  | non => exact Bool.noConfusion m
  | ro xs => exact Bool.noConfusion m
  | lst xs => obtain ⟨vs, h1, _⟩ := h; exact ⟨_, h1⟩
  | dic lk kvs =>
    cases lk with
    | false => obtain ⟨vs, h1, _⟩ := h; exact ⟨_, h1⟩
    | true => obtain ⟨o, vs, h1, _⟩ := h; exact ⟨_, h1⟩
  | ins c fs => obtain ⟨C, dx, vs, _, h1, _⟩ := h; exact ⟨_, h1⟩
theorem mu1_same {n : Nat} : mu1 μ n p n = p := if_pos rfl
theorem mu1_lt {n k : Nat} (h : k < n) : mu1 μ n p k = μ k := if_neg (Nat.ne_of_lt h)
theorem push_same : (S.push ob).at_ S.n = ob := if_pos rfl
theorem push_lt {n : Nat} (h : n < S.n) : (S.push ob).at_ n = S.at_ n := if_neg (Nat.ne_of_lt h)
theorem push_n : (S.push ob).n = S.n + 1 := rfl
theorem set_same {k : Nat} : (S.set k ob).at_ k = ob := if_pos rfl
theorem set_ne {k n : Nat} (h : n ≠ k) : (S.set k ob).at_ n = S.at_ n := if_neg h
theorem set_n {k : Nat} : (S.set k ob).n = S.n := rfl
/-- a new object of the store -/
theorem SRel.push (r : SRel K mg T H μ S) (hp : H p = none) (h : ObR K mg (upd H p o) (mu1 μ S.n p) (S.n + 1) p ob) : SRel K mg T (upd H p o) (mu1 μ S.n p) (S.push ob) := by
  refine ⟨?_, ?_, tabs_new r.tab hp⟩
  · intro n hn
    rw [push_n] at hn ⊢
    rcases Nat.lt_or_eq_of_le (Nat.le_of_lt_succ hn) with hl | q
    · rw [mu1_lt hl, push_lt hl]
      exact (r.at_ n hl).mono (ext_new hp _ _ (Nat.le_succ _)) (fun _ u h => by rw [upd_ne (ne_of_none h hp)]; exact h)
    · subst q
      rw [mu1_same, push_same]
      exact h
  · intro n m hn hm h1 h2 e
    have key : ∀ k, k < S.n → isMut (S.at_ k) = true → μ k ≠ p := fun k hk mk z => by
      obtain ⟨o, ho⟩ := (r.at_ k hk).some mk
      rw [z, hp] at ho; cases ho
    rw [push_n] at hn hm
    rcases Nat.lt_or_eq_of_le (Nat.le_of_lt_succ hn) with hln | qn
    · rw [push_lt hln] at h1
      rcases Nat.lt_or_eq_of_le (Nat.le_of_lt_succ hm) with hl | qm
      · rw [push_lt hl] at h2
        rw [mu1_lt hln, mu1_lt hl] at e
        exact r.inj n m hln hl h1 h2 e
      · subst qm
        rw [mu1_lt hln, mu1_same] at e
        exact absurd e (key n hln h1)
    · subst qn
      rcases Nat.lt_or_eq_of_le (Nat.le_of_lt_succ hm) with hl | qm
      · rw [push_lt hl] at h2
        rw [mu1_lt hl, mu1_same] at e
        exact absurd e.symm (key m hl h2)
      · exact qm.symm
theorem ro_frz {K : PySem.W.Frag} {mg : Str → Option Value} {H : Hp} {μ : Nat → Addr} {N : Nat} {a : Addr} {ob : Ob} (h : ObR K mg H μ N a ob) (m : isMut ob = false) (z : ob ≠ .non) (hnf : ∀ o u, H a ≠ some (.frz o u)) :
    ∀ {H' : Hp} {μ' : Nat → Addr} {N' : Nat}, Ext H μ N H' μ' N' → ObR K mg H' μ' N' a ob := by
  intro H' μ' N' e
  cases ob with
  | non => exact absurd rfl z
  | ro xs =>
    obtain ⟨vs, h1, h2⟩ := h
    rcases h1 with ⟨o, q⟩ | h1
    · exact absurd q (hnf _ _)
    · exact ⟨vs, .inr h1, h2.ext e⟩
  | lst xs => exact Bool.noConfusion m
  | dic lk kvs => exact Bool.noConfusion m
  | ins c fs => exact Bool.noConfusion m
/-- a mutable object of the store is changed -/
theorem SRel.write {k : Nat} (r : SRel K mg T H μ S) (hk : k < S.n) (mk : isMut (S.at_ k) = true) (mo : isMut ob = true) (hnt : ∀ xs, H (μ k) ≠ some (.tup xs)) (hnf : ∀ o u, H (μ k) ≠ some (.frz o u)) (hnb : ∀ ps, H (μ k) ≠ some (.tbl ps)) (hnx : ∀ φ, H (μ k) ≠ some (.ext φ))
    (h : Ext H μ S.n (upd H (μ k) o) μ S.n → ObR K mg (upd H (μ k) o) μ S.n (μ k) ob) : SRel K mg T (upd H (μ k) o) μ (S.set k ob) ∧ Ext H μ S.n (upd H (μ k) o) μ S.n := by
  have ex : Ext H μ S.n (upd H (μ k) o) μ S.n := ⟨fun b xs q => by
      by_cases z : b = μ k
      · rw [z] at q; exact absurd q (hnt xs)
      · rw [upd_ne z]; exact q, fun b o u q => by
      by_cases z : b = μ k
      · rw [z] at q; exact absurd q (hnf o _)
      · rw [upd_ne z]; exact q, fun b u q => by
      by_cases z : b = μ k
      · rw [z] at q; exact absurd q (hnx u)
      · rw [upd_ne z]; exact q, Nat.le_refl _, fun _ _ => rfl⟩
  refine ⟨⟨fun n hn => ?_, fun n m hn hm h1 h2 e => ?_, tabs_upd r.tab hnb hnx⟩, ex⟩
  · rw [set_n] at hn ⊢
    by_cases q : n = k
    · subst q
      rw [set_same]
      exact h ex
    · rw [set_ne q]
      by_cases zz : S.at_ n = .non
      · rw [zz]; trivial
      · by_cases z : μ n = μ k
        · cases mm : isMut (S.at_ n) with
          | true => exact absurd (r.inj n k hn hk mm mk z) q
          | false => exact ro_frz (r.at_ n hn) mm zz (by rw [z]; exact hnf) ex
        · exact (r.at_ n hn).mono ex fun _ u hu => by rw [upd_ne z]; exact hu
  · have e1 : ∀ j, isMut ((S.set k ob).at_ j) = true → isMut (S.at_ j) = true := fun j hj => by
      by_cases q : j = k
      · rw [q]; exact mk
      · rw [set_ne q] at hj; exact hj
    exact r.inj n m hn hm (e1 n h1) (e1 m h2) e
end
end Q

set_option linter.all false
set_option maxRecDepth 100000
set_option maxHeartbeats 400000
namespace Q
open PySem PySem.Spec PyProof.Rows L2

abbrev MO (α : Type) := Sto → Option (α × Sto)
def lift {α : Type} (m : MO α) : M α := fun S =>
  match m S with
  | none => none
  | some (a, S') => some (.ok a, S')

/-- how an exception lies -/
def ExR (mg : Str → Option Value) (H : Hp) (c f : Str) (v : Vl) (cls : Value) (d : Option Addr) : Prop :=
  ∃ C, mg c = some (.ref C) ∧ cls = .ref C ∧ ((f = "" ∧ d = none) ∨ False)

section
variable (K : PySem.W.Frag) (mg : Str → Option Value) (T : Tb)
/-- what is wanted of an outcome -/
def Pst {α β : Type} (W : Value → Option Addr → Hp → Prop) (rel : Hp → (Nat → Addr) → Nat → α → β → Prop) (H : Hp) (μ : Nat → Addr) (N : Nat) (Q : β → Hp → Prop) : Option (R α × Sto) → Prop
  | none => False
  | some (.ok v, S') => ∀ H' μ' x, Ext H μ N H' μ' S'.n → SRel K mg T H' μ' S' → rel H' μ' S'.n v x → Q x H'
  | some (.exc c f v, S') => ∀ H' μ' cls d, Ext H μ N H' μ' S'.n → SRel K mg T H' μ' S' → ExR mg H' c f v cls d → W cls d H'
def PstO {α β : Type} (rel : Hp → (Nat → Addr) → Nat → α → β → Prop) (H : Hp) (μ : Nat → Addr) (N : Nat) (Q : β → Hp → Prop) : Option (α × Sto) → Prop
  | none => False
  | some (v, S') => ∀ H' μ' x, Ext H μ N H' μ' S'.n → SRel K mg T H' μ' S' → rel H' μ' S'.n v x → Q x H'
abbrev rl : Hp → (Nat → Addr) → Nat → Vl → V → Prop := fun H μ N v x => Rp K mg H μ N v x
abbrev rls : Hp → (Nat → Addr) → Nat → List Vl → List V → Prop := fun H μ N v x => RpAll K mg H μ N v x
/-- the reading of an expression that does as f says -/
def tOf (W : WX) (f : En → M Vl) : TE := fun σ H Q => ∃ (ρ : En) (μ : Nat → Addr) (S : Sto), SRel K mg T H μ S ∧ ERel K mg H μ S.n ρ σ ∧ Pst K mg T (fun cls d H' => W cls d σ H') (rl K mg) H μ S.n Q (f ρ S)
def tOfA (W : WX) (f : En → M (List Vl)) : TA := fun σ H Q => ∃ (ρ : En) (μ : Nat → Addr) (S : Sto), SRel K mg T H μ S ∧ ERel K mg H μ S.n ρ σ ∧ Pst K mg T (fun cls d H' => W cls d σ H') (rls K mg) H μ S.n Q (f ρ S)
/-- a test -/
def tOfT (W : WX) (f : En → M Bool) : TT := fun σ H Q => ∃ (ρ : En) (μ : Nat → Addr) (S : Sto), SRel K mg T H μ S ∧ ERel K mg H μ S.n ρ σ ∧ Pst K mg T (fun cls d H' => W cls d σ H') (fun _ _ _ (a b : Bool) => a = b) H μ S.n Q (f ρ S)
/-- a statement -/
def PstS (W : WX) (H : Hp) (μ : Nat → Addr) (N : Nat) (D : Ends) : Option (Fl × En × Sto) → Prop
  | none => False
  | some (.nx, ρ', S') => ∀ H' μ' σ', Ext H μ N H' μ' S'.n → SRel K mg T H' μ' S' → ERel K mg H' μ' S'.n ρ' σ' → D.nx σ' H'
  | some (.bk, ρ', S') => ∀ H' μ' σ', Ext H μ N H' μ' S'.n → SRel K mg T H' μ' S' → ERel K mg H' μ' S'.n ρ' σ' → D.bk σ' H'
  | some (.ct, ρ', S') => ∀ H' μ' σ', Ext H μ N H' μ' S'.n → SRel K mg T H' μ' S' → ERel K mg H' μ' S'.n ρ' σ' → D.ct σ' H'
  | some (.rt v, _, S') => ∀ H' μ' x, Ext H μ N H' μ' S'.n → SRel K mg T H' μ' S' → Rp K mg H' μ' S'.n v x → D.rt x H'
  | some (.ex c f v, ρ', S') => ∀ H' μ' σ' cls d, Ext H μ N H' μ' S'.n → SRel K mg T H' μ' S' → ERel K mg H' μ' S'.n ρ' σ' → ExR mg H' c f v cls d → W cls d σ' H'
def tOfS (W : WX) (f : MS) : TS := fun D σ H => ∃ (ρ : En) (μ : Nat → Addr) (S : Sto), SRel K mg T H μ S ∧ ERel K mg H μ S.n ρ σ ∧ PstS K mg T W H μ S.n D (f ρ S)
/-- a target -/
def tOfG (g : Vl → En → MO En) : TG := fun x σ H Q => ∃ (ρ : En) (μ : Nat → Addr) (S : Sto) (v : Vl), SRel K mg T H μ S ∧ ERel K mg H μ S.n ρ σ ∧ Rp K mg H μ S.n v x ∧ PstO K mg T (fun H' μ' N' ρ' σ' => ERel K mg H' μ' N' ρ' σ') H μ S.n Q (g v ρ S)
end

abbrev SE (X : Cx) (T : Tb) (W : WX) (e : Expr) (f : En → M Vl) : Prop := PE X e (tOf X.K X.mg T W f)
abbrev SA (X : Cx) (T : Tb) (W : WX) (es : List Expr) (f : En → M (List Vl)) : Prop := PA X es (tOfA X.K X.mg T W f)
abbrev ST (X : Cx) (T : Tb) (W : WX) (e : Expr) (f : En → M Bool) : Prop := PT X e (tOfT X.K X.mg T W f)
abbrev SS (X : Cx) (T : Tb) (W : WX) (s : Stmt) (f : MS) : Prop := PS X s (tOfS X.K X.mg T W f)
abbrev SSs (X : Cx) (T : Tb) (W : WX) (s : List Stmt) (f : MS) : Prop := PSs X s (tOfS X.K X.mg T W f)
abbrev SG (X : Cx) (T : Tb) (e : Expr) (g : Vl → En → MO En) : Prop := PG X e (tOfG X.K X.mg T g)

section
variable {X : Cx} {T : Tb} {W : WX}
theorem PE.imp {e : Expr} {t t' : TE} (h : PE X e t) (i : ∀ σ H Q, t' σ H Q → t σ H Q) : PE X e t' := ⟨fun pins s σ H Q I q => h.run pins s σ H Q I (i σ H Q q)⟩
theorem PT.imp {e : Expr} {t t' : TT} (h : PT X e t) (i : ∀ σ H Q, t' σ H Q → t σ H Q) : PT X e t' := ⟨fun pins s σ H Q I q => h.run pins s σ H Q I (i σ H Q q)⟩
theorem PA.imp {e : List Expr} {t t' : TA} (h : PA X e t) (i : ∀ σ H Q, t' σ H Q → t σ H Q) : PA X e t' := ⟨fun pos pins s σ H Q I q => h.run pos pins s σ H Q I (i σ H Q q)⟩
theorem PS.imp {e : Stmt} {t t' : TS} (h : PS X e t) (i : ∀ D σ H, t' D σ H → t D σ H) : PS X e t' := ⟨fun pins s σ H D I q => h.run pins s σ H D I (i D σ H q)⟩
theorem PSs.imp {e : List Stmt} {t t' : TS} (h : PSs X e t) (i : ∀ D σ H, t' D σ H → t D σ H) : PSs X e t' := ⟨fun pins s σ H D I q => h.run pins s σ H D I (i D σ H q)⟩
theorem PG.imp {e : Expr} {t t' : TG} (h : PG X e t) (i : ∀ v σ H Q, t' v σ H Q → t v σ H Q) : PG X e t' := ⟨fun pins s σ H v u Q I r q => h.run pins s σ H v u Q I r (i v σ H Q q)⟩
end

section
variable {K : PySem.W.Frag} {mg : Str → Option Value} {T : Tb}
theorem Pst.step {α β : Type} {W : Value → Option Addr → Hp → Prop} {rel : Hp → (Nat → Addr) → Nat → α → β → Prop} {H H2 : Hp} {μ μ2 : Nat → Addr} {N N2 : Nat} {Q : β → Hp → Prop} {o : Option (R α × Sto)}
    (h : Pst K mg T W rel H μ N Q o) (e : Ext H μ N H2 μ2 N2) : Pst K mg T W rel H2 μ2 N2 Q o := by
  match o, h with
  | some (.ok v, S'), h => exact fun H' μ' x e' => h H' μ' x (e.trans e')
  | some (.exc c f v, S'), h => exact fun H' μ' cls d e' => h H' μ' cls d (e.trans e')
theorem PstO.step {α β : Type} {rel : Hp → (Nat → Addr) → Nat → α → β → Prop} {H H2 : Hp} {μ μ2 : Nat → Addr} {N N2 : Nat} {Q : β → Hp → Prop} {o : Option (α × Sto)}
    (h : PstO K mg T rel H μ N Q o) (e : Ext H μ N H2 μ2 N2) : PstO K mg T rel H2 μ2 N2 Q o := by
  match o, h with
  | some (v, S'), h => exact fun H' μ' x e' => h H' μ' x (e.trans e')
theorem PstS.step {W : WX} {H H2 : Hp} {μ μ2 : Nat → Addr} {N N2 : Nat} {D : Ends} {o : Option (Fl × En × Sto)}
    (h : PstS K mg T W H μ N D o) (e : Ext H μ N H2 μ2 N2) : PstS K mg T W H2 μ2 N2 D o := by
  match o, h with
  | some (.nx, ρ', S'), h => exact fun H' μ' x e' => h H' μ' x (e.trans e')
  | some (.bk, ρ', S'), h => exact fun H' μ' x e' => h H' μ' x (e.trans e')
  | some (.ct, ρ', S'), h => exact fun H' μ' x e' => h H' μ' x (e.trans e')
  | some (.rt v, ρ', S'), h => exact fun H' μ' x e' => h H' μ' x (e.trans e')
  | some (.ex c f v, ρ', S'), h => exact fun H' μ' σ' cls d e' => h H' μ' σ' cls d (e.trans e')
/-- the outcome of a step and what follows it -/
theorem Pst.bnd_ {α β γ δ : Type} {W : Value → Option Addr → Hp → Prop} {rel : Hp → (Nat → Addr) → Nat → α → β → Prop} {rel2 : Hp → (Nat → Addr) → Nat → γ → δ → Prop} {H : Hp} {μ : Nat → Addr} {N : Nat} {Q : δ → Hp → Prop} {m : M α} {k : α → M γ} {S : Sto}
    (h : Pst K mg T W rel2 H μ N Q (bnd m k S)) {Q1 : β → Hp → Prop} (i : ∀ v S' H' μ' x, Ext H μ N H' μ' S'.n → SRel K mg T H' μ' S' → rel H' μ' S'.n v x → Pst K mg T W rel2 H' μ' S'.n Q (k v S') → Q1 x H') : Pst K mg T W rel H μ N Q1 (m S) := by
  unfold bnd at h
  cases e : m S with
  | none => rw [e] at h; exact h
  | some p =>
    obtain ⟨r, S'⟩ := p
    rw [e] at h
    cases r with
    | ok v => exact fun H' μ' x e' sr rx => i v S' H' μ' x e' sr rx (h.step e')
    | exc c f v => exact h
theorem Pst.lift_ {α β : Type} {W : Value → Option Addr → Hp → Prop} {rel : Hp → (Nat → Addr) → Nat → α → β → Prop} {H : Hp} {μ : Nat → Addr} {N : Nat} {Q : β → Hp → Prop} {m : MO α} {S : Sto}
    (h : Pst K mg T W rel H μ N Q (lift m S)) : PstO K mg T rel H μ N Q (m S) := by
  unfold lift at h
  cases e : m S with
  | none => rw [e] at h; exact h
  | some p => obtain ⟨r, S'⟩ := p; rw [e] at h; exact h
/-- nothing happened to the store -/
theorem PstO.here {α β : Type} {rel : Hp → (Nat → Addr) → Nat → α → β → Prop} {H : Hp} {μ : Nat → Addr} {Q : β → Hp → Prop} {v : α} {x : β} {S : Sto} (h : PstO K mg T rel H μ S.n Q (some (v, S))) (sr : SRel K mg T H μ S) (r : rel H μ S.n v x) : Q x H := h H μ x Ext.refl sr r
theorem Pst.here {α β : Type} {W : Value → Option Addr → Hp → Prop} {rel : Hp → (Nat → Addr) → Nat → α → β → Prop} {H : Hp} {μ : Nat → Addr} {Q : β → Hp → Prop} {v : α} {x : β} {S : Sto} (h : Pst K mg T W rel H μ S.n Q (some (.ok v, S))) (sr : SRel K mg T H μ S) (r : rel H μ S.n v x) : Q x H := h H μ x Ext.refl sr r
end

/-! ### constants and names -/
def mSlot (i : Nat) : En → M Vl := fun ρ => match ρ[i]? with
  | some (some v) => ret v
  | _ => fail
def mC (v : Vl) : En → M Vl := fun _ => ret v
section
variable {X : Cx} {T : Tb} {W : WX} {pos : Pos}
theorem se_slot (i : Nat) {x : Str} (hN : X.N[i]? = some x := by rfl) (hv : Vis X.env.scope x := by first | exact Or.inl rfl | exact Or.inr (Or.inl rfl) | exact Or.inr (Or.inr rfl)) (hd : (x == ("__debug__" : Str)) = false := by decide)
    (hcd : (x == ("__classdict__" : Str)) = false := by decide) : SE X T W (.Name x pos) (mSlot i) := by
  refine PE.imp (pe_var hN hv hd hcd) fun σ H Q h => ?_
  obtain ⟨ρ, μ, S, sr, er, h⟩ := h
  unfold mSlot at h
  cases e : ρ[i]? with
  | none => rw [e] at h; exact h.elim
  | some o =>
    cases o with
    | none => rw [e] at h; exact h.elim
    | some v =>
      rw [e] at h
      obtain ⟨x, h1, h2⟩ := er.at_ i v e
      exact ⟨x, h1, Pst.here h sr h2⟩
theorem se_int {i j} : SE X T W (.Constant (.int i) j pos) (mC (.int i)) := PE.imp pe_int fun σ H Q ⟨ρ, μ, S, sr, er, h⟩ => Pst.here (x := V.int i) h sr (.int i)
theorem se_bl {i j} : SE X T W (.Constant (.bool i) j pos) (mC (.bl i)) := PE.imp pe_bl fun σ H Q ⟨ρ, μ, S, sr, er, h⟩ => Pst.here (x := V.bl i) h sr (.bl i)
theorem se_str {i j} : SE X T W (.Constant (.str i) j pos) (mC (.str i)) := PE.imp pe_str fun σ H Q ⟨ρ, μ, S, sr, er, h⟩ => Pst.here (x := V.str i) h sr (.str i)
theorem se_non {j} : SE X T W (.Constant .none j pos) (mC .non) := PE.imp pe_non fun σ H Q ⟨ρ, μ, S, sr, er, h⟩ => Pst.here (x := V.non) h sr .non
/-- a def or a class of the module, as a value -/
theorem se_gl {x : Str} {a : Addr} (hg : Gl X x) (hm : X.mg x = some (.ref a)) (hd : (x == ("__debug__" : Str)) = false := by decide) : SE X T W (.Name x pos) (mC (.gl x)) :=
  PE.imp (pe_glob hg hm (v := .ref a) rfl hd) fun σ H Q ⟨ρ, μ, S, sr, er, h⟩ => Pst.here (x := V.ref a) h sr (.gl x a hm)
/-- a constant of the module: its value v, known to the written part -/
def Cst (K : PySem.W.Frag) (mg : Str → Option Value) (x : Str) (v : Vl) : Prop := ∃ u y, mg x = some u ∧ RelV y u ∧ ∀ H μ N, Rp K mg H μ N v y
theorem se_cst {x : Str} {v : Vl} (hg : Gl X x) (hc : Cst X.K X.mg x v) (hd : (x == ("__debug__" : Str)) = false := by decide) : SE X T W (.Name x pos) (mC v) := by
  obtain ⟨u, y, hm, r, hr⟩ := hc
  exact PE.imp (pe_glob hg hm r hd) fun σ H Q ⟨ρ, μ, S, sr, er, h⟩ => Pst.here (x := y) h sr (hr _ _ _)
end

/-! ### operators by values -/
/-- an operation on values: never raises -/
def rOf (K : PySem.W.Frag) (mg : Str → Option Value) (T : Tb) (m : Vl → Vl → MO Vl) : R2 := fun x y H Q => ∃ (μ : Nat → Addr) (S : Sto) (a b : Vl), SRel K mg T H μ S ∧ Rp K mg H μ S.n a x ∧ Rp K mg H μ S.n b y ∧ PstO K mg T (rl K mg) H μ S.n Q (m a b S)
abbrev OpS (X : Cx) (T : Tb) (f : Value → Value → Sem Value) (m : Vl → Vl → MO Vl) : Prop := OpR X f (rOf X.K X.mg T m)
def mBin (m : Vl → Vl → MO Vl) (fa fb : En → M Vl) : En → M Vl := fun ρ => bnd (fa ρ) fun x => bnd (fb ρ) fun y => lift (m x y)
section
variable {X : Cx} {T : Tb} {W : WX} {pos : Pos}
theorem tOp_of {m : Vl → Vl → MO Vl} {fa fb : En → M Vl} {σ : L2.St} {H : Hp} {Q : VK} (h : tOf X.K X.mg T W (mBin m fa fb) σ H Q) : tOp (rOf X.K X.mg T m) (tOf X.K X.mg T W fa) (tOf X.K X.mg T W fb) σ H Q := by
  obtain ⟨ρ, μ, S, sr, er, h⟩ := h
  refine ⟨ρ, μ, S, sr, er, Pst.bnd_ h fun v S1 H1 μ1 x e1 sr1 rx h1 => ?_⟩
  refine ⟨ρ, μ1, S1, sr1, er.ext e1, Pst.bnd_ h1 fun w S2 H2 μ2 y e2 sr2 ry h2 => ?_⟩
  exact ⟨μ2, S2, v, w, sr2, rx.ext e2, ry, h2.lift_⟩
theorem se_bin {a b : Expr} {op : Operator} {m : Vl → Vl → MO Vl} {fa fb : En → M Vl} (ho : OpS X T (binaryOp op) m) (ha : SE X T W a fa) (hb : SE X T W b fb) : SE X T W (.BinOp a op b pos) (mBin m fa fb) :=
  PE.imp (pe_op ho ha hb) fun σ H Q h => tOp_of h
theorem se_cmp {a b : Expr} {op : CmpOp} {m : Vl → Vl → MO Vl} {fa fb : En → M Vl} (ho : OpS X T (compareOp op) m) (ha : SE X T W a fa) (hb : SE X T W b fb) (hm : behindInMarks op b = false := by rfl) : SE X T W (.Compare a [op] [b] pos) (mBin m fa fb) :=
  PE.imp (pe_cmpR ho ha hb hm) fun σ H Q h => tOp_of h
end
end Q

set_option linter.all false
set_option maxRecDepth 100000
set_option maxHeartbeats 400000
namespace Q
open PySem PySem.Spec PyProof.Rows L2

def bAdd : Vl → Vl → MO Vl := fun a b S =>
  match a, b with
  | .int i, .int j => some (.int (i + j), S)
  | .str i, .str j => if i.length + j.length ≤ sizeLine then some (.str (i ++ j), S) else none
  | .tup xs, .tup ys => if xs.length + ys.length ≤ sizeLine then some (.tup (xs ++ ys), S) else none
  | .ref n, .ref m => match S.at_ n, S.at_ m with
    | .lst xs, .lst ys => if xs.length + ys.length ≤ sizeLine then some (.ref S.n, S.push (.lst (xs ++ ys))) else none
    | _, _ => none
  | _, _ => none
def bSub : Vl → Vl → MO Vl := fun a b S =>
  match a, b with
  | .int i, .int j => some (.int (i - j), S)
  | _, _ => none
instance (i j : Int) : Decidable (CMul i j) := by unfold CMul; infer_instance
instance (i j : Int) : Decidable (CDiv i j) := by unfold CDiv; infer_instance
instance (i j : Int) : Decidable (CPow i j) := by unfold CPow; infer_instance
def bMul : Vl → Vl → MO Vl := fun a b S =>
  match a, b with
  | .int i, .int j => if CMul i j then some (.int (i * j), S) else none
  | .ref n, .int k => match S.at_ n with
    | .lst xs => if -(2 ^ 63) ≤ k ∧ k < 2 ^ 63 ∧ xs.length * k.toNat ≤ sizeLine then some (.ref S.n, S.push (.lst (List.replicate k.toNat xs).flatten)) else none
    | _ => none
  | _, _ => none
def bDiv : Vl → Vl → MO Vl := fun a b S =>
  match a, b with
  | .int i, .int j => if CDiv i j then some (.int (i / j), S) else none
  | _, _ => none
def bMod : Vl → Vl → MO Vl := fun a b S =>
  match a, b with
  | .int i, .int j => if 0 < j then some (.int (i % j), S) else none
  | _, _ => none
def bPow : Vl → Vl → MO Vl := fun a b S =>
  match a, b with
  | .int i, .int j => if CPow i j then some (.int (i ^ j.toNat), S) else none
  | _, _ => none
def bCmp (p : Int → Int → Bool) : Vl → Vl → MO Vl := fun a b S =>
  match a, b with
  | .int i, .int j => some (.bl (p i j), S)
  | _, _ => none

section
variable {K : PySem.W.Frag} {mg : Str → Option Value} {T : Tb} {H : Hp} {μ : Nat → Addr} {S : Sto} {N : Nat}
theorem Rp.lst_at {n : Nat} {x : V} {xs : List Vl} (sr : SRel K mg T H μ S) (r : Rp K mg H μ S.n (.ref n) x) (e : S.at_ n = .lst xs) : ∃ vs, x = .ref (μ n) ∧ n < S.n ∧ H (μ n) = some (.lst vs) ∧ RpAll K mg H μ S.n xs vs := by
  cases r with
  | ref n h =>
    have q := sr.at_ n h
    rw [e] at q
    obtain ⟨vs, h1, h2⟩ := q
    exact ⟨vs, rfl, h, h1, h2⟩
theorem Rp.tup_at {x : V} {xs : List Vl} (r : Rp K mg H μ N (.tup xs) x) : ∃ a vs, x = .ref a ∧ SqT K H a vs ∧ RpAll K mg H μ N xs vs := by
  cases r with
  | tup h a => exact ⟨_, _, rfl, h, a⟩
/-- a new tuple -/
theorem fin_tup {Q : VK} {xs : List Vl} {vs : List V} (h : PstO K mg T (rl K mg) H μ S.n Q (some (.tup xs, S))) (sr : SRel K mg T H μ S) (r : RpAll K mg H μ S.n xs vs) : ∀ p, H p = none → Q (.ref p) (upd H p (.tup vs)) := fun p hp =>
  h _ μ _ (ext_upd hp _) (sr.laid hp) (.tup (.inl (.inl upd_same)) (r.ext (ext_upd hp _)))
/-- a new list -/
theorem fin_lst {Q : VK} {xs : List Vl} {vs : List V} (h : PstO K mg T (rl K mg) H μ S.n Q (some (.ref S.n, S.push (.lst xs)))) (sr : SRel K mg T H μ S) (r : RpAll K mg H μ S.n xs vs) : ∀ p, H p = none → Q (.ref p) (upd H p (.lst vs)) := fun p hp => by
  have e := ext_new (μ := μ) (o := .lst vs) hp S.n (S.n + 1) (Nat.le_succ _)
  refine h _ (mu1 μ S.n p) _ e (sr.push hp ⟨vs, upd_same, r.ext e⟩) ?_
  have := Rp.ref (K := K) (mg := mg) (H := upd H p (.lst vs)) (μ := mu1 μ S.n p) (N := S.n + 1) S.n (Nat.lt_succ_self _)
  rw [mu1_same] at this
  exact this
end
theorem RpAll.nil_iff {K : PySem.W.Frag} {mg : Str → Option Value} {H : Hp} {μ : Nat → Addr} {N : Nat} {xs : List Vl} {vs : List V} (h : RpAll K mg H μ N xs vs) : vs = [] ↔ xs = [] := by
  cases h <;> simp
theorem RpAll.rep {K : PySem.W.Frag} {mg : Str → Option Value} {H : Hp} {μ : Nat → Addr} {N : Nat} {xs : List Vl} {vs : List V} (h : RpAll K mg H μ N xs vs) : ∀ k, RpAll K mg H μ N (List.replicate k xs).flatten (List.replicate k vs).flatten
  | 0 => .nil
  | k + 1 => by rw [List.replicate_succ, List.replicate_succ, List.flatten_cons, List.flatten_cons]; exact h.append (RpAll.rep h k)

section
variable {X : Cx} {T : Tb}
theorem os_add : OpS X T (binaryOp .Add) bAdd := by
  intro pins s σ H x y v u Q I rx ry h
  obtain ⟨μ, S, a, b, sr, ra, rb, h⟩ := h
  cases a with
  | int i =>
    cases b with
    | int j => cases ra; cases rb; exact op_add pins s σ H _ _ v u Q I rx ry ⟨i, j, rfl, rfl, h.here sr (.int _)⟩
    | _ => exact h.elim
  | str i =>
    cases b with
    | str j =>
      cases ra; cases rb
      have h : PstO X.K X.mg T (rl X.K X.mg) H μ S.n Q (if i.length + j.length ≤ sizeLine then some (.str (i ++ j), S) else none) := h
      by_cases hz : i.length + j.length ≤ sizeLine
      · rw [if_pos hz] at h
        exact op_add_str pins s σ H _ _ v u Q I rx ry ⟨i, j, rfl, rfl, hz, h.here sr (.str _)⟩
      · rw [if_neg hz] at h; exact h.elim
    | _ => exact h.elim
  | tup xs =>
    cases b with
    | tup ys =>
      obtain ⟨a, vs, rfl, ha, ra⟩ := ra.tup_at
      obtain ⟨b, ws, rfl, hb, rb⟩ := rb.tup_at
      have h : PstO X.K X.mg T (rl X.K X.mg) H μ S.n Q (if xs.length + ys.length ≤ sizeLine then some (.tup (xs ++ ys), S) else none) := h
      by_cases hz : xs.length + ys.length ≤ sizeLine
      · rw [if_pos hz] at h
        refine op_catA pins s σ H _ _ v u Q I rx ry ⟨a, b, vs, ws, rfl, rfl, ha, hb, by rw [← ra.length, ← rb.length]; exact hz, fun e => ?_, fun e1 e2 => ?_, fun _ _ => fin_tup h sr (ra.append rb)⟩
        · rw [ra.nil_iff] at e; subst e
          exact h.here sr (.tup hb rb)
        · rw [rb.nil_iff] at e2; subst e2
          rw [List.append_nil] at h
          exact h.here sr (.tup ha ra)
      · rw [if_neg hz] at h; exact h.elim
    | _ => exact h.elim
  | ref n =>
    cases b with
    | ref m =>
      cases e1 : S.at_ n with
      | lst xs =>
        cases e2 : S.at_ m with
        | lst ys =>
          have h : PstO X.K X.mg T (rl X.K X.mg) H μ S.n Q (match S.at_ n, S.at_ m with
            | .lst xs, .lst ys => if xs.length + ys.length ≤ sizeLine then some (.ref S.n, S.push (.lst (xs ++ ys))) else none
            | _, _ => none) := h
          rw [e1, e2] at h
          have h : PstO X.K X.mg T (rl X.K X.mg) H μ S.n Q (if xs.length + ys.length ≤ sizeLine then some (.ref S.n, S.push (.lst (xs ++ ys))) else none) := h
          obtain ⟨vs, rfl, hn, h1, r1⟩ := ra.lst_at sr e1
          obtain ⟨ws, rfl, hm, h2, r2⟩ := rb.lst_at sr e2
          by_cases hz : xs.length + ys.length ≤ sizeLine
          · rw [if_pos hz] at h
            exact op_cat pins s σ H _ _ v u Q I rx ry ⟨_, _, vs, ws, rfl, rfl, h1, h2, by rw [← r1.length, ← r2.length]; exact hz, fin_lst h sr (r1.append r2)⟩
          · rw [if_neg hz] at h; exact h.elim
        | _ => simp only [bAdd, e1, e2] at h; exact h.elim
      | _ => simp only [bAdd, e1] at h; exact h.elim
    | _ => exact h.elim
  | _ => exact h.elim
theorem os_sub : OpS X T (binaryOp .Sub) bSub := by
  intro pins s σ H x y v u Q I rx ry h
  obtain ⟨μ, S, a, b, sr, ra, rb, h⟩ := h
  cases a with
  | int i =>
    cases b with
    | int j => cases ra; cases rb; exact op_sub pins s σ H _ _ v u Q I rx ry ⟨i, j, rfl, rfl, h.here sr (.int _)⟩
    | _ => exact h.elim
  | _ => exact h.elim
theorem os_int {f : Value → Value → Sem Value} {C : Int → Int → Prop} [∀ i j, Decidable (C i j)] {g : Int → Int → Int} {m : Vl → Vl → MO Vl} (ho : OpR X f (rI C fun i j => .int (g i j)))
    (hm : ∀ a b S, m a b S = match a, b with | .int i, .int j => if C i j then some (.int (g i j), S) else none | _, _ => none) : OpS X T f m := by
  intro pins s σ H x y v u Q I rx ry h
  obtain ⟨μ, S, a, b, sr, ra, rb, h⟩ := h
  rw [hm] at h
  cases a with
  | int i =>
    cases b with
    | int j =>
      cases ra; cases rb
      have h : PstO X.K X.mg T (rl X.K X.mg) H μ S.n Q (if C i j then some (.int (g i j), S) else none) := h
      by_cases hz : C i j
      · rw [if_pos hz] at h
        exact ho pins s σ H _ _ v u Q I rx ry ⟨i, j, rfl, rfl, hz, h.here sr (.int _)⟩
      · rw [if_neg hz] at h; exact h.elim
    | _ => exact h.elim
  | _ => exact h.elim
theorem os_div : OpS X T (binaryOp .FloorDiv) bDiv := os_int op_fdiv fun a b S => by cases a <;> first | rfl | (cases b <;> rfl)
theorem os_mod : OpS X T (binaryOp .Mod) bMod := os_int op_mod fun a b S => by cases a <;> first | rfl | (cases b <;> rfl)
theorem os_pow : OpS X T (binaryOp .Pow) bPow := os_int op_pow fun a b S => by cases a <;> first | rfl | (cases b <;> rfl)
theorem os_mul : OpS X T (binaryOp .Mult) bMul := by
  intro pins s σ H x y v u Q I rx ry h
  obtain ⟨μ, S, a, b, sr, ra, rb, h⟩ := h
  cases a with
  | int i =>
    cases b with
    | int j =>
      cases ra; cases rb
      have h : PstO X.K X.mg T (rl X.K X.mg) H μ S.n Q (if CMul i j then some (.int (i * j), S) else none) := h
      by_cases hz : CMul i j
      · rw [if_pos hz] at h
        exact op_mul pins s σ H _ _ v u Q I rx ry ⟨i, j, rfl, rfl, hz, h.here sr (.int _)⟩
      · rw [if_neg hz] at h; exact h.elim
    | _ => exact h.elim
  | ref n =>
    cases b with
    | int k =>
      cases rb
      cases e1 : S.at_ n with
      | lst xs =>
        have h : PstO X.K X.mg T (rl X.K X.mg) H μ S.n Q (match S.at_ n with
          | .lst xs => if -(2 ^ 63) ≤ k ∧ k < 2 ^ 63 ∧ xs.length * k.toNat ≤ sizeLine then some (.ref S.n, S.push (.lst (List.replicate k.toNat xs).flatten)) else none
          | _ => none) := h
        rw [e1] at h
        have h : PstO X.K X.mg T (rl X.K X.mg) H μ S.n Q (if -(2 ^ 63) ≤ k ∧ k < 2 ^ 63 ∧ xs.length * k.toNat ≤ sizeLine then some (.ref S.n, S.push (.lst (List.replicate k.toNat xs).flatten)) else none) := h
        obtain ⟨vs, rfl, hn, h1, r1⟩ := ra.lst_at sr e1
        by_cases hz : -(2 ^ 63) ≤ k ∧ k < 2 ^ 63 ∧ xs.length * k.toNat ≤ sizeLine
        · rw [if_pos hz] at h
          exact op_rep pins s σ H _ _ v u Q I rx ry ⟨_, k, vs, rfl, rfl, h1, hz.1, hz.2.1, by rw [← r1.length]; exact hz.2.2, fin_lst h sr (r1.rep _)⟩
        · rw [if_neg hz] at h; exact h.elim
      | _ => simp only [bMul, e1] at h; exact h.elim
    | _ => exact h.elim
  | _ => exact h.elim
theorem os_cmp {f : Value → Value → Sem Value} {p : Int → Int → Bool} (ho : OpR X f (rI0 fun i j => .bl (p i j))) : OpS X T f (bCmp p) := by
  intro pins s σ H x y v u Q I rx ry h
  obtain ⟨μ, S, a, b, sr, ra, rb, h⟩ := h
  cases a with
  | int i =>
    cases b with
    | int j => cases ra; cases rb; exact ho pins s σ H _ _ v u Q I rx ry ⟨i, j, rfl, rfl, h.here sr (.bl _)⟩
    | _ => exact h.elim
  | _ => exact h.elim
abbrev bLt := bCmp fun i j => decide (i < j)
abbrev bLe := bCmp fun i j => decide (i ≤ j)
abbrev bGt := bCmp fun i j => decide (j < i)
abbrev bGe := bCmp fun i j => decide (j ≤ i)
theorem os_lt : OpS X T (compareOp .Lt) bLt := os_cmp op_lt
theorem os_le : OpS X T (compareOp .LtE) bLe := os_cmp op_le
theorem os_gt : OpS X T (compareOp .Gt) bGt := os_cmp op_gt
theorem os_ge : OpS X T (compareOp .GtE) bGe := os_cmp op_ge
end

end Q

set_option linter.all false
set_option maxRecDepth 100000
set_option maxHeartbeats 400000
namespace Q
open PySem PySem.Spec PyProof.Rows L2

/-! ### == of data -/
mutual
/-- a value as data, lists by lk -/
def toDW (lk : Nat → Option PyData) : Vl → Option PyData
  | .non => some .none
  | .bl b => some (.bool b)
  | .int i => some (.int i)
  | .str s => some (.str s)
  | .tup xs => (toDWs lk xs).map .tuple
  | .ref n => lk n
  | .gl _ => none
  | .ty _ => none
  | .exc _ _ _ => none
def toDWs (lk : Nat → Option PyData) : List Vl → Option (List PyData)
  | [] => some []
  | x :: xs => match toDW lk x, toDWs lk xs with
    | some d, some ds => some (d :: ds)
    | _, _ => none
end
def lkN (S : Sto) : Nat → Nat → Option PyData
  | 0, _ => none
  | d + 1, n => match S.at_ n with
    | .lst xs => (toDWs (lkN S d) xs).map .list
    | .ro xs => (toDWs (lkN S d) xs).map .list
    | _ => none
def toD (S : Sto) : Vl → Option PyData := toDW (lkN S 6)

section
variable {K : PySem.W.Frag} {mg : Str → Option Value} {T : Tb} {H : Hp} {μ : Nat → Addr} {S : Sto} {N : Nat}
/-- a list that is read -/
def getR (S : Sto) (n : Nat) : Option (List Vl) := match S.at_ n with
  | .lst xs => some xs
  | .ro xs => some xs
  | _ => none
theorem Rp.read_at {n : Nat} {x : V} {xs : List Vl} (sr : SRel K mg T H μ S) (r : Rp K mg H μ S.n (.ref n) x) (e : getR S n = some xs) : ∃ vs, x = .ref (μ n) ∧ SqL K H (μ n) vs ∧ RpAll K mg H μ S.n xs vs := by
  cases r with
  | ref n h =>
    have q := sr.at_ n h
    unfold getR at e
    cases e1 : S.at_ n with
    | lst ys =>
      rw [e1] at e q
      cases e
      obtain ⟨vs, h1, h2⟩ := q
      exact ⟨vs, rfl, .inl (.inl h1), h2⟩
    | ro ys =>
      rw [e1] at e q
      cases e
      obtain ⟨vs, h1, h2⟩ := q
      refine ⟨vs, rfl, ?_, h2⟩
      rcases h1 with ⟨o, q⟩ | q
      · exact .inl (.inr ⟨o, q⟩)
      · exact .inr q
    | _ => rw [e1] at e; cases e
mutual
theorem Dp_of (lk : Nat → Option PyData) (hlk : ∀ n x d, Rp K mg H μ N (.ref n) x → lk n = some d → Dp K H x d) : ∀ {a : Vl} {x : V} {d : PyData}, Rp K mg H μ N a x → toDW lk a = some d → Dp K H x d
  | .non, _, _, r, e => by cases r; cases e; exact .non
  | .bl b, _, _, r, e => by cases r; cases e; exact .bl b
  | .int b, _, _, r, e => by cases r; cases e; exact .int b
  | .str b, _, _, r, e => by cases r; cases e; exact .str b
  | .tup xs, _, _, r, e => by
    cases r with
    | tup h a =>
      unfold toDW at e
      cases q : toDWs lk xs with
      | none => rw [q] at e; cases e
      | some ds => rw [q] at e; cases e; exact .tup h (DpAll_of lk hlk a q)
  | .ref n, _, _, r, e => by unfold toDW at e; exact hlk n _ _ r e
  | .gl _, _, _, _, e => by cases e
  | .ty _, _, _, _, e => by cases e
  | .exc _ _ _, _, _, _, e => by cases e
theorem DpAll_of (lk : Nat → Option PyData) (hlk : ∀ n x d, Rp K mg H μ N (.ref n) x → lk n = some d → Dp K H x d) : ∀ {a : List Vl} {x : List V} {d : List PyData}, RpAll K mg H μ N a x → toDWs lk a = some d → DpAll K H x d
  | [], _, _, r, e => by cases r; cases e; exact .nil
  | y :: ys, _, _, r, e => by
    cases r with
    | cons r1 r2 =>
      unfold toDWs at e
      cases q1 : toDW lk y with
      | none => rw [q1] at e; cases e
      | some d =>
        cases q2 : toDWs lk ys with
        | none => rw [q1, q2] at e; cases e
        | some ds => rw [q1, q2] at e; cases e; exact .cons (Dp_of lk hlk r1 q1) (DpAll_of lk hlk r2 q2)
end
theorem Dp_lk (sr : SRel K mg T H μ S) : ∀ (k n : Nat) (x : V) (d : PyData), Rp K mg H μ S.n (.ref n) x → lkN S k n = some d → Dp K H x d
  | 0, _, _, _, _, e => by cases e
  | k + 1, n, x, d, r, e => by
    cases e1 : S.at_ n with
    | lst xs =>
      have g : getR S n = some xs := by unfold getR; rw [e1]
      unfold lkN at e
      rw [e1] at e
      obtain ⟨vs, rfl, h1, h2⟩ := r.read_at sr g
      cases q : toDWs (lkN S k) xs with
      | none => simp only [q] at e; cases e
      | some ds => simp only [q] at e; cases e; exact .lst h1 (DpAll_of _ (Dp_lk sr k) h2 q)
    | ro xs =>
      have g : getR S n = some xs := by unfold getR; rw [e1]
      unfold lkN at e
      rw [e1] at e
      obtain ⟨vs, rfl, h1, h2⟩ := r.read_at sr g
      cases q : toDWs (lkN S k) xs with
      | none => simp only [q] at e; cases e
      | some ds => simp only [q] at e; cases e; exact .lst h1 (DpAll_of _ (Dp_lk sr k) h2 q)
    | _ => unfold lkN at e; rw [e1] at e; cases e
theorem Dp_toD (sr : SRel K mg T H μ S) {a : Vl} {x : V} {d : PyData} (r : Rp K mg H μ S.n a x) (e : toD S a = some d) : Dp K H x d := Dp_of _ (Dp_lk sr 6) r e
end
def bEqD (neg : Bool) : Vl → Vl → MO Vl := fun a b S =>
  match toD S a, toD S b with
  | some d, some e => if (d.canLay0 && e.canLay0 && decide (min d.depth e.depth ≤ 190)) = true then some (.bl (if neg then !(PyData.eqv d e) else PyData.eqv d e), S) else none
  | _, _ => none
def bEqW (neg : Bool) : Vl → Vl → MO Vl
  | .str x, .str y => fun S => some (.bl (if neg then !(decide (x = y)) else decide (x = y)), S)
  | a, b => bEqD neg a b
abbrev bEq := bEqW false
abbrev bNe := bEqW true
section
variable {X : Cx} {T : Tb}
theorem bEqW_eq {neg : Bool} {a b : Vl} : (∃ x y, a = .str x ∧ b = .str y) ∨ bEqW neg a b = bEqD neg a b := by
  cases a with
  | str x => cases b with
    | str y => exact .inl ⟨x, y, rfl, rfl⟩
    | _ => exact .inr rfl
  | _ => exact .inr rfl
theorem os_eqW {op : CmpOp} {neg : Bool} (hs : OpR X (compareOp op) fun x y H Q => ∃ a b, x = .str a ∧ y = .str b ∧ Q (.bl (if neg then !(decide (a = b)) else decide (a = b))) H)
    (ho : ∀ {s : Shared} {v u : Value} {d e : PyData} {as bs : List Addr} {Q : Value → Shared → Prop}, Reads s.heap v d as → Reads s.heap u e bs → d.canLay0 = true → e.canLay0 = true → X.A.units + min d.depth e.depth < cLine → Q (.bool (if neg then !(PyData.eqv d e) else PyData.eqv d e)) s → wpAny (model X.prog X.w) X.A (compareOp op v u) Q X.xe s)
    (hu : X.A.units + 190 < cLine) : OpS X T (compareOp op) (bEqW neg) := by
  intro pins s σ H x y v u Q I rx ry h
  obtain ⟨μ, S, a, b, sr, ra, rb, h⟩ := h
  rcases bEqW_eq (neg := neg) (a := a) (b := b) with ⟨p, q, rfl, rfl⟩ | e0
  · cases ra; cases rb
    exact hs pins s σ H _ _ v u Q I rx ry ⟨p, q, rfl, rfl, PstO.here (show PstO X.K X.mg T (rl X.K X.mg) H μ S.n Q (some (.bl _, S)) from h) sr (.bl _)⟩
  rw [e0] at h
  unfold bEqD at h
  cases q1 : toD S a with
  | none => rw [q1] at h; exact h.elim
  | some d =>
    cases q2 : toD S b with
    | none => rw [q1, q2] at h; exact h.elim
    | some e =>
      simp only [q1, q2] at h
      by_cases hz : (d.canLay0 && e.canLay0 && decide (min d.depth e.depth ≤ 190)) = true
      · rw [if_pos hz] at h
        simp only [Bool.and_eq_true, decide_eq_true_eq] at hz
        obtain ⟨as, r1⟩ := Dp.reads I d x v (Dp_toD sr ra q1) rx
        obtain ⟨bs, r2⟩ := Dp.reads I e y u (Dp_toD sr rb q2) ry
        exact ho r1 r2 hz.1.1 hz.1.2 (by omega) ⟨.bl _, H, I, rfl, h.here sr (.bl _)⟩
      · rw [if_neg hz] at h; exact h.elim
theorem dec_str {a b : Str} : decide (V.str a = V.str b) = decide (a = b) := by
  rw [Bool.eq_iff_iff]; simp
theorem os_eq (hu : X.A.units + 190 < cLine) : OpS X T (compareOp .Eq) bEq := os_eqW
  (fun pins s σ H x y v u Q I rx ry ⟨a, b, e1, e2, q⟩ => op_eq pins s σ H x y v u Q I rx ry ⟨by rw [e1, e2]; rfl, by rw [e1, e2, dec_str]; exact q⟩)
  (fun r1 r2 h1 h2 h3 q => SeqAt.compareEq_reads r1 r2 h1 h2 h3 q) hu
theorem os_ne (hu : X.A.units + 190 < cLine) : OpS X T (compareOp .NotEq) bNe := os_eqW
  (fun pins s σ H x y v u Q I rx ry ⟨a, b, e1, e2, q⟩ => op_ne pins s σ H x y v u Q I rx ry ⟨by rw [e1, e2]; rfl, by rw [e1, e2, dec_str]; exact q⟩)
  (fun r1 r2 h1 h2 h3 q => SeqAt.compareNe_reads r1 r2 h1 h2 h3 q) hu
end

/-! ### is None, is True, is False -/
def isNon : Vl → Bool
  | .non => true
  | _ => false
def bIs (neg : Bool) : Vl → Vl → MO Vl := fun a b S =>
  match b with
  | .non => some (.bl (if neg then !(isNon a) else isNon a), S)
  | .bl y => match a with
    | .bl x => some (.bl (if neg then !(decide (x = y)) else decide (x = y)), S)
    | _ => none
  | _ => none
section
variable {X : Cx} {T : Tb}
theorem Rp.non_iff {K : PySem.W.Frag} {mg : Str → Option Value} {H : Hp} {μ : Nat → Addr} {N : Nat} {a : Vl} {x : V} (r : Rp K mg H μ N a x) : decide (x = .non) = isNon a := by
  cases r <;> simp [isNon]
theorem os_is : OpS X T (compareOp .Is) (bIs false) := by
  intro pins s σ H x y v u Q I rx ry h
  obtain ⟨μ, S, a, b, sr, ra, rb, h⟩ := h
  cases b with
  | non =>
    cases rb
    refine op_isN pins s σ H _ _ v u Q I rx ry ⟨rfl, ?_⟩
    rw [ra.non_iff]
    exact PstO.here (v := Vl.bl (isNon a)) (S := S) (rel := rl X.K X.mg) h sr (.bl _)
  | bl y =>
    cases rb
    cases a with
    | bl x => cases ra; exact op_isBl pins s σ H _ _ v u Q I rx ry ⟨_, _, rfl, rfl, h.here sr (.bl _)⟩
    | _ => exact h.elim
  | _ => exact h.elim
theorem os_isnot : OpS X T (compareOp .IsNot) (bIs true) := by
  intro pins s σ H x y v u Q I rx ry h
  obtain ⟨μ, S, a, b, sr, ra, rb, h⟩ := h
  cases b with
  | non =>
    cases rb
    refine op_notN pins s σ H _ _ v u Q I rx ry ⟨rfl, ?_⟩
    rw [ra.non_iff]
    exact PstO.here (v := Vl.bl (!(isNon a))) (S := S) (rel := rl X.K X.mg) h sr (.bl _)
  | bl y =>
    cases rb
    cases a with
    | bl x => cases ra; exact op_notBl pins s σ H _ _ v u Q I rx ry ⟨_, _, rfl, rfl, h.here sr (.bl _)⟩
    | _ => exact h.elim
  | _ => exact h.elim
end

/-! ### subscripts -/
def bIdx : Vl → Vl → MO Vl := fun a b S =>
  match b with
  | .int i => match a with
    | .tup xs => match atI xs i with
      | some v => some (v, S)
      | none => none
    | .ref n => match getR S n with
      | some xs => match atI xs i with
        | some v => some (v, S)
        | none => none
      | none => none
    | .str z => if z.length ≤ sizeLine then match atI z.cps.toList i with
        | some c => some (.str ⟨#[c]⟩, S)
        | none => none
      else none
    | _ => none
  | _ => none
theorem atI_rel {K : PySem.W.Frag} {mg : Str → Option Value} {H : Hp} {μ : Nat → Addr} {N : Nat} {xs : List Vl} {vs : List V} {i : Int} {x : Vl} (r : RpAll K mg H μ N xs vs) (h : atI xs i = some x) : ∃ v, atI vs i = some v ∧ Rp K mg H μ N x v := by
  unfold atI at h ⊢
  rw [← r.length]
  cases q : ixN xs.length i with
  | none => rw [q] at h; cases h
  | some j => rw [q] at h; exact r.get (i := j) h
/-- a subscript by values, through a rule of the layer -/
theorem se_idx {X : Cx} {T : Tb} {W : WX} {a b : Expr} {fa fb : En → M Vl} {pos : Pos} (ha : SE X T W a fa) (hb : SE X T W b fb) (hs : PlainIx b := by exact fun _ _ => rfl) : SE X T W (.Subscript a b pos) (mBin bIdx fa fb) := by
  have ho : IxR X (rOf X.K X.mg T bIdx) := by
    intro value slice pins s σ H x y v u Q I rx ry h hs
    obtain ⟨μ, S, a, b, sr, ra, rb, h⟩ := h
    cases b with
    | int i =>
      cases rb
      cases a with
      | tup xs =>
        obtain ⟨p, vs, rfl, h1, r1⟩ := ra.tup_at
        have h : PstO X.K X.mg T (rl X.K X.mg) H μ S.n Q (match atI xs i with | some v => some (v, S) | none => none) := h
        cases q : atI xs i with
        | none => rw [q] at h; exact h.elim
        | some w =>
          rw [q] at h
          obtain ⟨z, h2, r2⟩ := atI_rel r1 q
          exact ix_tup value slice pins s σ H _ _ v u Q I rx ry ⟨p, vs, i, z, rfl, rfl, h1, h2, h.here sr r2⟩ hs
      | ref n =>
        have h : PstO X.K X.mg T (rl X.K X.mg) H μ S.n Q (match getR S n with
          | some xs => match atI xs i with
            | some v => some (v, S)
            | none => none
          | none => none) := h
        cases g : getR S n with
        | none => rw [g] at h; exact h.elim
        | some xs =>
          rw [g] at h
          simp only at h
          obtain ⟨vs, rfl, h1, r1⟩ := ra.read_at sr g
          cases q : atI xs i with
          | none => rw [q] at h; exact h.elim
          | some w =>
            rw [q] at h
            obtain ⟨z, h2, r2⟩ := atI_rel r1 q
            exact ix_list value slice pins s σ H _ _ v u Q I rx ry ⟨_, vs, i, z, rfl, rfl, h1, h2, h.here sr r2⟩ hs
      | str z =>
        cases ra
        have h : PstO X.K X.mg T (rl X.K X.mg) H μ S.n Q (if z.length ≤ sizeLine then match atI z.cps.toList i with
            | some c => some (.str ⟨#[c]⟩, S)
            | none => none
          else none) := h
        by_cases hz : z.length ≤ sizeLine
        · rw [if_pos hz] at h
          cases q : atI z.cps.toList i with
          | none => rw [q] at h; exact h.elim
          | some c => rw [q] at h; exact ix_str value slice pins s σ H _ _ v u Q I rx ry ⟨z, i, c, rfl, rfl, hz, q, h.here sr (.str _)⟩ hs
        · rw [if_neg hz] at h; exact h.elim
      | _ => exact h.elim
    | _ => cases a <;> exact h.elim
  exact PE.imp (pe_ix ho ha hb hs) fun σ H Q h => tOp_of h
end Q

set_option linter.all false
set_option maxRecDepth 100000
set_option maxHeartbeats 400000
namespace Q
open PySem PySem.Spec PyProof.Rows L2

/-! ### arguments, displays -/
def mNil : En → M (List Vl) := fun _ => ret []
def mCons (f : En → M Vl) (g : En → M (List Vl)) : En → M (List Vl) := fun ρ => bnd (f ρ) fun x => bnd (g ρ) fun xs => ret (x :: xs)
def mTup (g : En → M (List Vl)) : En → M Vl := fun ρ => bnd (g ρ) fun xs => lift fun S => if xs.length ≤ sizeLine then some (.tup xs, S) else none
def mLst (g : En → M (List Vl)) : En → M Vl := fun ρ => bnd (g ρ) fun xs => lift fun S => if xs.length ≤ sizeLine then some (.ref S.n, S.push (.lst xs)) else none
section
variable {X : Cx} {T : Tb} {W : WX} {pos : Pos}
theorem sa_nil : SA X T W [] mNil := PA.imp pa_nil fun σ H Q ⟨ρ, μ, S, sr, er, h⟩ => Pst.here (x := []) h sr .nil
theorem sa_cons {e : Expr} {es : List Expr} {f : En → M Vl} {g : En → M (List Vl)} (ha : SE X T W e f) (hr : SA X T W es g) (hs : starEach (e :: es) X.env = (false, eval e X.env) :: starEach es X.env := by rfl) : SA X T W (e :: es) (mCons f g) := by
  refine PA.imp (pa_cons ha hr hs) fun σ H Q h => ?_
  obtain ⟨ρ, μ, S, sr, er, h⟩ := h
  refine ⟨ρ, μ, S, sr, er, Pst.bnd_ h fun v S1 H1 μ1 x e1 sr1 rx h1 => ?_⟩
  refine ⟨ρ, μ1, S1, sr1, er.ext e1, Pst.bnd_ h1 fun w S2 H2 μ2 y e2 sr2 ry h2 => ?_⟩
  exact Pst.here h2 sr2 (.cons (rx.ext e2) ry)
theorem se_tup {es : List Expr} {k} {g : En → M (List Vl)} (h : SA X T W es g) : SE X T W (.Tuple es k pos) (mTup g) := by
  refine PE.imp (pe_tup h) fun σ H Q h => ?_
  obtain ⟨ρ, μ, S, sr, er, h⟩ := h
  refine ⟨ρ, μ, S, sr, er, Pst.bnd_ h fun v S1 H1 μ1 x e1 sr1 rx h1 => ?_⟩
  have h1 := h1.lift_
  by_cases hz : v.length ≤ sizeLine
  · rw [if_pos hz] at h1
    exact ⟨by rw [← RpAll.length rx]; exact hz, fin_tup h1 sr1 rx⟩
  · rw [if_neg hz] at h1; exact h1.elim
theorem se_lst {es : List Expr} {g : En → M (List Vl)} (h : SA X T W es g) : SE X T W (.List es pos) (mLst g) := by
  refine PE.imp (pe_lst h) fun σ H Q h => ?_
  obtain ⟨ρ, μ, S, sr, er, h⟩ := h
  refine ⟨ρ, μ, S, sr, er, Pst.bnd_ h fun v S1 H1 μ1 x e1 sr1 rx h1 => ?_⟩
  have h1 := h1.lift_
  by_cases hz : v.length ≤ sizeLine
  · rw [if_pos hz] at h1
    exact ⟨by rw [← RpAll.length rx]; exact hz, fin_lst h1 sr1 rx⟩
  · rw [if_neg hz] at h1; exact h1.elim
end

/-! ### tests -/
def mTst (f : En → M Vl) : En → M Bool := fun ρ => bnd (f ρ) fun v => match v with | .bl b => ret b | _ => fail
def mAnd (f g : En → M Bool) : En → M Bool := fun ρ => bnd (f ρ) fun b => if b = true then g ρ else ret false
def mOr (f g : En → M Bool) : En → M Bool := fun ρ => bnd (f ρ) fun b => if b = true then ret true else g ρ
def mNot (f : En → M Bool) : En → M Bool := fun ρ => bnd (f ρ) fun b => ret (!b)
def mIte (c : En → M Bool) (f g : En → M Vl) : En → M Vl := fun ρ => bnd (c ρ) fun b => if b = true then f ρ else g ρ
/-- values, by truth values -/
def mAndV (f g : En → M Vl) : En → M Vl := fun ρ => bnd (f ρ) fun v => match v with | .bl b => if b = true then g ρ else ret (.bl false) | _ => fail
def mOrV (f g : En → M Vl) : En → M Vl := fun ρ => bnd (f ρ) fun v => match v with | .bl b => if b = true then ret (.bl true) else g ρ | _ => fail
def mNotV (f : En → M Vl) : En → M Vl := fun ρ => bnd (f ρ) fun v => match v with | .bl b => ret (.bl (!b)) | _ => fail
abbrev STw (X : Cx) (T : Tb) (W : WX) (e : Expr) (f : En → M Bool) : Prop := PW X e (tOfT X.K X.mg T W f)
theorem PW.imp {X : Cx} {e : Expr} {t t' : TT} (h : PW X e t) (i : ∀ σ H Q, t' σ H Q → t σ H Q) : PW X e t' := ⟨fun wh pins s σ H Q I q => h.run wh pins s σ H Q I (i σ H Q q)⟩
section
variable {X : Cx} {T : Tb} {W : WX} {pos : Pos}
theorem tB_of {f : En → M Vl} {σ : L2.St} {H : Hp} {Q : Bool → Hp → Prop} (h : tOfT X.K X.mg T W (mTst f) σ H Q) : tB (tOf X.K X.mg T W f) σ H Q := by
  obtain ⟨ρ, μ, S, sr, er, h⟩ := h
  refine ⟨ρ, μ, S, sr, er, Pst.bnd_ h fun v S1 H1 μ1 x e1 sr1 rx h1 => ?_⟩
  cases v with
  | bl b => cases rx; exact ⟨b, rfl, Pst.here h1 sr1 rfl⟩
  | _ => exact h1.elim
/-- an expression whose value is a bool, as a test -/
theorem st_val {e : Expr} {f : En → M Vl} (h : SE X T W e f) (he : ∀ whole, isTrue e X.env whole = (do let v ← whole; standAt e.pos; holding [v] (truthy v)) := by intro _; rfl) : ST X T W e (mTst f) :=
  PT.imp (pt_val h he) fun σ H Q h => tB_of h
theorem st_cmp {a b : Expr} {op : CmpOp} {m : Vl → Vl → MO Vl} {fa fb : En → M Vl} (ho : OpS X T (compareOp op) m) (ha : SE X T W a fa) (hb : SE X T W b fb) (hm : behindInMarks op b = false := by rfl) : ST X T W (.Compare a [op] [b] pos) (mTst (mBin m fa fb)) := by
  refine PT.imp (pt_cmpR ho ha hb hm) fun σ H Q h => ?_
  have h2 := tB_of h
  exact tOp_of h2
theorem tAnd_of {f g : En → M Bool} {σ : L2.St} {H : Hp} {Q : Bool → Hp → Prop} (h : tOfT X.K X.mg T W (mAnd f g) σ H Q) : tAnd (tOfT X.K X.mg T W f) (tOfT X.K X.mg T W g) σ H Q := by
  obtain ⟨ρ, μ, S, sr, er, h⟩ := h
  refine ⟨ρ, μ, S, sr, er, Pst.bnd_ h fun v S1 H1 μ1 x e1 sr1 rx h1 => ?_⟩
  have rx : v = x := rx
  subst rx
  cases v with
  | true => exact ⟨ρ, μ1, S1, sr1, er.ext e1, h1⟩
  | false => exact Pst.here h1 sr1 rfl
theorem tOr_of {f g : En → M Bool} {σ : L2.St} {H : Hp} {Q : Bool → Hp → Prop} (h : tOfT X.K X.mg T W (mOr f g) σ H Q) : tOr (tOfT X.K X.mg T W f) (tOfT X.K X.mg T W g) σ H Q := by
  obtain ⟨ρ, μ, S, sr, er, h⟩ := h
  refine ⟨ρ, μ, S, sr, er, Pst.bnd_ h fun v S1 H1 μ1 x e1 sr1 rx h1 => ?_⟩
  have rx : v = x := rx
  subst rx
  cases v with
  | true => exact Pst.here h1 sr1 rfl
  | false => exact ⟨ρ, μ1, S1, sr1, er.ext e1, h1⟩
theorem sw_and1 {a : Expr} {f : En → M Bool} (ha : ST X T W a f) : STw X T W (.BoolOp .And [a] pos) f := pw_and1 ha
theorem sw_or1 {a : Expr} {f : En → M Bool} (ha : ST X T W a f) : STw X T W (.BoolOp .Or [a] pos) f := pw_or1 ha
theorem sw_and {a b : Expr} {rest : List Expr} {f g : En → M Bool} (ha : ST X T W a f) (hb : STw X T W (.BoolOp .And (b :: rest) pos) g) : STw X T W (.BoolOp .And (a :: b :: rest) pos) (mAnd f g) := PW.imp (pw_and ha hb) fun σ H Q h => tAnd_of h
theorem sw_or {a b : Expr} {rest : List Expr} {f g : En → M Bool} (ha : ST X T W a f) (hb : STw X T W (.BoolOp .Or (b :: rest) pos) g) : STw X T W (.BoolOp .Or (a :: b :: rest) pos) (mOr f g) := PW.imp (pw_or ha hb) fun σ H Q h => tOr_of h
theorem st_w {e : Expr} {f : En → M Bool} (h : STw X T W e f) : ST X T W e f := L2.PW.pt h
theorem st_not {a : Expr} {f : En → M Bool} (ha : ST X T W a f) : ST X T W (.UnaryOp .Not a pos) (mNot f) := by
  refine PT.imp (pt_not ha) fun σ H Q h => ?_
  obtain ⟨ρ, μ, S, sr, er, h⟩ := h
  refine ⟨ρ, μ, S, sr, er, Pst.bnd_ h fun v S1 H1 μ1 x e1 sr1 rx h1 => ?_⟩
  have rx : v = x := rx
  subst rx
  exact Pst.here h1 sr1 rfl
theorem se_ite {c a b : Expr} {fc : En → M Bool} {f g : En → M Vl} (hc : ST X T W c fc) (ha : SE X T W a f) (hb : SE X T W b g) : SE X T W (.IfExp c a b pos) (mIte fc f g) := by
  refine PE.imp (pe_ifExp hc ha hb) fun σ H Q h => ?_
  obtain ⟨ρ, μ, S, sr, er, h⟩ := h
  refine ⟨ρ, μ, S, sr, er, Pst.bnd_ h fun v S1 H1 μ1 x e1 sr1 rx h1 => ?_⟩
  have rx : v = x := rx
  subst rx
  cases v with
  | true => exact ⟨ρ, μ1, S1, sr1, er.ext e1, h1⟩
  | false => exact ⟨ρ, μ1, S1, sr1, er.ext e1, h1⟩
theorem se_one {op} {a : Expr} {f : En → M Vl} (h : SE X T W a f) : SE X T W (.BoolOp op [a] pos) f := pe_one h
theorem se_and {a b : Expr} {rest : List Expr} {f g : En → M Vl} (ha : SE X T W a f) (hb : SE X T W (.BoolOp .And (b :: rest) pos) g) : SE X T W (.BoolOp .And (a :: b :: rest) pos) (mAndV f g) := by
  refine PE.imp (pe_and ha hb) fun σ H Q h => ?_
  obtain ⟨ρ, μ, S, sr, er, h⟩ := h
  refine ⟨ρ, μ, S, sr, er, Pst.bnd_ h fun v S1 H1 μ1 x e1 sr1 rx h1 => ?_⟩
  cases v with
  | bl c =>
    cases rx
    refine ⟨c, rfl, ?_⟩
    cases c with
    | true => exact ⟨ρ, μ1, S1, sr1, er.ext e1, h1⟩
    | false => exact Pst.here h1 sr1 (.bl _)
  | _ => exact h1.elim
theorem se_or {a b : Expr} {rest : List Expr} {f g : En → M Vl} (ha : SE X T W a f) (hb : SE X T W (.BoolOp .Or (b :: rest) pos) g) : SE X T W (.BoolOp .Or (a :: b :: rest) pos) (mOrV f g) := by
  refine PE.imp (pe_or ha hb) fun σ H Q h => ?_
  obtain ⟨ρ, μ, S, sr, er, h⟩ := h
  refine ⟨ρ, μ, S, sr, er, Pst.bnd_ h fun v S1 H1 μ1 x e1 sr1 rx h1 => ?_⟩
  cases v with
  | bl c =>
    cases rx
    refine ⟨c, rfl, ?_⟩
    cases c with
    | true => exact Pst.here h1 sr1 (.bl _)
    | false => exact ⟨ρ, μ1, S1, sr1, er.ext e1, h1⟩
  | _ => exact h1.elim
theorem se_not {a : Expr} {f : En → M Vl} (ha : SE X T W a f) : SE X T W (.UnaryOp .Not a pos) (mNotV f) := by
  refine PE.imp (pe_not ha) fun σ H Q h => ?_
  obtain ⟨ρ, μ, S, sr, er, h⟩ := h
  refine ⟨ρ, μ, S, sr, er, Pst.bnd_ h fun v S1 H1 μ1 x e1 sr1 rx h1 => ?_⟩
  cases v with
  | bl c => cases rx; exact ⟨c, rfl, Pst.here h1 sr1 (.bl _)⟩
  | _ => exact h1.elim
end

/-! ### a built-in function by name, by values -/
def rCof (K : PySem.W.Frag) (mg : Str → Option Value) (T : Tb) (m : List Vl → MO Vl) : List V → Hp → VK → Prop := fun xs H Q => ∃ (μ : Nat → Addr) (S : Sto) (as : List Vl), SRel K mg T H μ S ∧ RpAll K mg H μ S.n as xs ∧ PstO K mg T (rl K mg) H μ S.n Q (m as S)
abbrev CaS (X : Cx) (T : Tb) (f : Value) (m : List Vl → MO Vl) : Prop := CallR X f (rCof X.K X.mg T m)
def mBi (m : List Vl → MO Vl) (g : En → M (List Vl)) : En → M Vl := fun ρ => bnd (g ρ) fun xs => lift (m xs)
section
variable {X : Cx} {T : Tb} {W : WX} {pos p : Pos} {x : Str} {id Ty : String} {m : List Vl → MO Vl} {e : Expr} {es : List Expr} {g : En → M (List Vl)}
theorem tCB_of {σ : L2.St} {H : Hp} {Q : VK} (h : tOf X.K X.mg T W (mBi m g) σ H Q) : tCB (rCof X.K X.mg T m) (tOfA X.K X.mg T W g) σ H Q := by
  obtain ⟨ρ, μ, S, sr, er, h⟩ := h
  refine ⟨ρ, μ, S, sr, er, Pst.bnd_ h fun v S1 H1 μ1 x e1 sr1 rx h1 => ?_⟩
  exact ⟨μ1, S1, v, sr1, rx, h1.lift_⟩
theorem se_bi (hc : CaS X T (.builtin id) m) (hm : X.mg x = none) (hv : bootBuiltins x = some (.builtin id)) (ha : SA X T W (e :: es) g) (hg : Gl X x := by rfl) (hn : x ≠ "__name__" := by decide) (hdb : (x == ("__debug__" : Str)) = false := by decide)
    (he : starEach (e :: es) X.env = (false, eval e X.env) :: starEach es X.env := by rfl) (hpl : (backTo pos (starEach es X.env)).any (·.1) = false := by rfl) : SE X T W (.Call (.Name x p) (e :: es) [] pos) (mBi m g) :=
  PE.imp (pe_callB hc hg hm hv ha hn hdb he hpl) fun σ H Q h => tCB_of h
theorem se_ty (hc : CaS X T (.type Ty) m) (hm : X.mg x = none) (hv : bootBuiltins x = some (.type Ty)) (ha : SA X T W (e :: es) g) (hg : Gl X x := by rfl) (hn : x ≠ "__name__" := by decide) (hdb : (x == ("__debug__" : Str)) = false := by decide)
    (he : starEach (e :: es) X.env = (false, eval e X.env) :: starEach es X.env := by rfl) (hpl : (backTo pos (starEach es X.env)).any (·.1) = false := by rfl) : SE X T W (.Call (.Name x p) (e :: es) [] pos) (mBi m g) :=
  PE.imp (pe_callTy hc hg hm hv ha hn hdb he hpl) fun σ H Q h => tCB_of h
/-- a built-in class as a value -/
theorem se_bty (hm : X.mg x = none) (hv : bootBuiltins x = some (.type Ty)) (hg : Gl X x := by rfl) (hn : x ≠ "__name__" := by decide) (hdb : (x == ("__debug__" : Str)) = false := by decide) : SE X T W (.Name x pos) (mC (.ty Ty)) :=
  PE.imp (pe_bltn hg hm hv (v := .ty Ty) rfl hn hdb) fun σ H Q ⟨ρ, μ, S, sr, er, h⟩ => Pst.here (x := V.ty Ty) h sr (.ty Ty)
end

/-! ### calls of defs -/
def spF (K : PySem.W.Frag) (mg : Str → Option Value) (T : Tb) (n : Nat) (f : List Vl → M Vl) : Sp := fun vs H Q E => vs.length = n ∧ ∃ (μ : Nat → Addr) (S : Sto) (as : List Vl), SRel K mg T H μ S ∧ RpAll K mg H μ S.n as vs ∧ Pst K mg T (fun cls d H' => E cls d H') (rl K mg) H μ S.n Q (f as S)
/-- a def's promise; where g, it leans on there being no text of a container under way -/
structure FnQ (g : Bool) (P : Program) (w : World) (K : PySem.W.Frag) (mg : Str → Option Value) (base : Heap) (k : Nat) (f : Addr) (fd : FuncData) (ps : List Str) (sp : Sp) : Prop where
  len : ∀ vs H Q E, sp vs H Q E → vs.length = ps.length
  run : ∀ (A : Around) (outer : List Env) (s : Shared) (H : Hp) (args : Args) (us : List Value) (vs : List V) (Q : VK) (E : XK), Room k A → (g = true → A.guards = some []) → Env0 P w K mg base A outer s H → BindsTo s fd args (ps.zip us) → Vals vs us → sp vs H Q E →
    codeAny (model P w) A (.call (.ref f) args) (CR (L2.CX P w) outer P w H s Q E) s
/-- the def x, called with arguments behind which dvs are filled in, does as f says -/
structure CalS (g : Bool) (P : Program) (w : World) (K : PySem.W.Frag) (mg : Str → Option Value) (T : Tb) (base : Heap) (k : Nat) (x : Str) (dvs : List Vl) (f : List Vl → M Vl) : Prop where
  ex : ∃ (a : Addr) (fd : FuncData) (ps : List Str) (ds : List Value) (dvV : List V), mg x = some (.ref a) ∧ PySem.W.keepIn K (.ref a) = true ∧ FnQ g P w K mg base k a fd ps (spF K mg T ps.length f) ∧ (∀ as S, as.length ≠ ps.length → f as S = none) ∧ Binds K fd ps ds ∧ Vals dvV ds ∧ ∀ H μ N, RpAll K mg H μ N dvs dvV
def mCall (f : List Vl → M Vl) (dvs : List Vl) (g : En → M (List Vl)) : En → M Vl := fun ρ => bnd (g ρ) fun vs => f (vs ++ dvs)
section
variable {X : Cx} {T : Tb} {W : WX} {k : Nat} {x : Str} {dvs : List Vl} {f : List Vl → M Vl} {p pos : Pos} {e : Expr} {es : List Expr} {g : En → M (List Vl)}
theorem run_fnD {b : Bool} {fa : Addr} {fd : FuncData} {ps : List Str} {sp : Sp} {ds : List Value} {dvV : List V} {E : L2.St → XK} {pins : List (Addr × Obj)} {σ : L2.St} {H : Hp} {s : Shared} {Q : VK} {us : List Value} {vs : List V} (F : FnQ b X.prog X.w X.K X.mg X.base k fa fd ps sp) (hr : Room k X.A) (hgd : b = true → X.A.guards = some []) (hb : Binds X.K fd ps ds) (hd : Vals dvV ds) (hx : PassesAt (L2.CX X.prog X.w) X σ (E σ))
    (I : Inv X pins σ H s) (r : Vals vs us) (h : sp (vs ++ dvV) H Q (E σ)) : wpAny (model X.prog X.w) X.A (call (.ref fa) us) (EP X pins σ Q) X.xe s := by
  have r2 : Vals (vs ++ dvV) (us ++ ds) := r.append hd
  have hl : (us ++ ds).length = ps.length := by rw [← r2.length]; exact F.len _ _ _ _ h
  refine wpAny_call (codeAny_mono (F.run X.A X.stack s H ⟨us, []⟩ (us ++ ds) (vs ++ dvV) Q (E σ) hr hgd I.env0 (hb s us I.kIn hl) r2 h) fun r s' hq => ?_)
  cases r with
  | error e => exact hx pins H s e s' I hq
  | ok fl =>
    cases fl with
    | ret u => exact I.after hq
    | next => exact False.elim hq
    | brk => exact False.elim hq
    | cont => exact False.elim hq
theorem se_call {b : Bool} (c : CalS b X.prog X.w X.K X.mg T X.base k x dvs f) (hr : Room k X.A) (hgd : b = true → X.A.guards = some []) (tk : Takes X W) (ha : SA X T W (e :: es) g) (hg : Gl X x := by rfl) (hdb : (x == ("__debug__" : Str)) = false := by decide)
    (he : starEach (e :: es) X.env = (false, eval e X.env) :: starEach es X.env := by rfl) (hpl : (backTo pos (starEach es X.env)).any (·.1) = false := by rfl) : SE X T W (.Call (.Name x p) (e :: es) [] pos) (mCall f dvs g) := by
  obtain ⟨a, fd, ps, ds, dvV, hm, hk, F, hlen, hb, hd, hdv⟩ := c.ex
  refine ⟨fun pins s σ H Q I h => ?_⟩
  obtain ⟨ρ, μ, S, sr, er, h⟩ := h
  refine wpAny_Call_Name_kw (ld_glob I hg hm ?_ hdb)
  refine PySem.W.callWith_K (h₀ := X.base) I.ok.mod.kin hk (thn (ha.run pos pins s σ H (fun vs H1 => spF X.K X.mg T ps.length f (vs ++ dvV) H1 Q (WE W σ)) I ⟨ρ, μ, S, sr, er, Pst.bnd_ h fun v S1 H1 μ1 x e1 sr1 rx h1 => ?_⟩) fun us s1 ⟨vs, H1, I1, r, q⟩ => ⟨I1.kIn, ?_⟩) he hpl
  · have rr := RpAll.append rx (hdv H1 μ1 S1.n)
    refine ⟨?_, μ1, S1, v ++ dvs, sr1, rr, h1⟩
    rw [← rr.length]
    by_cases hz : (v ++ dvs).length = ps.length
    · exact hz
    · rw [hlen _ _ hz] at h1; exact h1.elim
  · exact run_fnD (E := WE W) F hr hgd hb hd (passAt tk σ) I1 r q
end
end Q

set_option linter.all false
set_option maxRecDepth 100000
set_option maxHeartbeats 400000
namespace Q
open PySem PySem.Spec PyProof.Rows L2

/-! ### statements -/
def sRet (f : En → M Vl) : MS := fun ρ S => match f ρ S with
  | none => none
  | some (.ok v, S') => some (.rt v, ρ, S')
  | some (.exc c g v, S') => some (.ex c g v, ρ, S')
def sRetN : MS := fun ρ S => some (.rt .non, ρ, S)
def sExp (f : En → M Vl) : MS := fun ρ S => match f ρ S with
  | none => none
  | some (.ok _, S') => some (.nx, ρ, S')
  | some (.exc c g v, S') => some (.ex c g v, ρ, S')
def sSeq (a b : MS) : MS := fun ρ S => match a ρ S with
  | some (.nx, ρ', S') => b ρ' S'
  | o => o
def sSkip : MS := fun ρ S => some (.nx, ρ, S)
def sBreak : MS := fun ρ S => some (.bk, ρ, S)
def sCont : MS := fun ρ S => some (.ct, ρ, S)
def sIf (c : En → M Bool) (a b : MS) : MS := fun ρ S => match c ρ S with
  | none => none
  | some (.ok true, S') => a ρ S'
  | some (.ok false, S') => b ρ S'
  | some (.exc c g v, S') => some (.ex c g v, ρ, S')
def sAsg (f : En → M Vl) (g : Vl → En → MO En) : MS := fun ρ S => match f ρ S with
  | none => none
  | some (.ok v, S') => (match g v ρ S' with
    | none => none
    | some (ρ', S2) => some (.nx, ρ', S2))
  | some (.exc c g v, S') => some (.ex c g v, ρ, S')
def gNm (i : Nat) : Vl → En → MO En := fun v ρ S => some (ρ.set i (some v), S)
def gTp (gs : List (Vl → En → MO En)) : Vl → En → MO En := fun v ρ S => match v with
  | .tup xs => go gs xs ρ S
  | _ => none
where go : List (Vl → En → MO En) → List Vl → En → MO En
  | [], [], ρ, S => some (ρ, S)
  | g :: gs, x :: xs, ρ, S => match g x ρ S with
    | none => none
    | some (ρ', S') => go gs xs ρ' S'
  | _, _, _, _ => none
/-- a op= b at a name -/
def sAug (i : Nat) (f : En → M Vl) (m : Vl → Vl → MO Vl) : MS := fun ρ S => match ρ[i]? with
  | some (some x) => (match f ρ S with
    | none => none
    | some (.ok v, S') => (match m x v S' with
      | none => none
      | some (z, S2) => some (.nx, ρ.set i (some z), S2))
    | some (.exc c g v, S') => some (.ex c g v, ρ, S'))
  | _ => none

section
variable {K : PySem.W.Frag} {mg : Str → Option Value} {T : Tb} {W : WX} {H : Hp} {μ : Nat → Addr} {S : Sto} {N : Nat} {ρ : En} {σ : L2.St}
/-- an exception of an expression, under a statement's wish -/
theorem exc_of {c f : Str} {v : Vl} {S' : Sto} {D : Ends} (er : ERel K mg H μ N ρ σ) (h : PstS K mg T W H μ N D (some (.ex c f v, ρ, S'))) {α β : Type} {rel : Hp → (Nat → Addr) → Nat → α → β → Prop} {Q : β → Hp → Prop} : Pst K mg T (fun cls d H' => W cls d σ H') rel H μ N Q (some (.exc c f v, S')) :=
  fun H' μ' cls d e sr x => h H' μ' σ cls d e sr (er.ext e) x
end

section
variable {X : Cx} {T : Tb} {W : WX} {pos : Pos}
theorem ss_ret {e : Expr} {f : En → M Vl} (h : SE X T W e f) : SS X T W (.Return (some e) pos) (sRet f) := by
  refine PS.imp (ps_ret h) fun D σ H q => ?_
  obtain ⟨ρ, μ, S, sr, er, q⟩ := q
  refine ⟨ρ, μ, S, sr, er, ?_⟩
  unfold sRet at q
  cases e : f ρ S with
  | none => rw [e] at q; exact q
  | some p =>
    obtain ⟨r, S'⟩ := p
    rw [e] at q
    cases r with
    | ok v => exact q
    | exc c g v => exact exc_of er q
theorem ss_retN : SS X T W (.Return none pos) sRetN := PS.imp ps_retN fun D σ H ⟨ρ, μ, S, sr, er, q⟩ => q H μ V.non Ext.refl sr .non
theorem ss_exp {e : Expr} {f : En → M Vl} (h : SE X T W e f) (hs : swapsWith e none pos.line X.env = pure false := by rfl) : SS X T W (.Expr e pos) (sExp f) := by
  refine PS.imp (ps_expr h hs) fun D σ H q => ?_
  obtain ⟨ρ, μ, S, sr, er, q⟩ := q
  refine ⟨ρ, μ, S, sr, er, ?_⟩
  unfold sExp at q
  cases e : f ρ S with
  | none => rw [e] at q; exact q
  | some p =>
    obtain ⟨r, S'⟩ := p
    rw [e] at q
    cases r with
    | ok v => exact fun H' μ' x e' sr' _ => q H' μ' σ e' sr' (er.ext e')
    | exc c g v => exact exc_of er q
theorem ss_doc {x j p2} : SS X T W (.Expr (.Constant (.str x) j p2) pos) sSkip := PS.imp ps_doc fun D σ H ⟨ρ, μ, S, sr, er, q⟩ => q H μ σ Ext.refl sr er
theorem ss_pass : SS X T W (.Pass pos) sSkip := PS.imp ps_pass fun D σ H ⟨ρ, μ, S, sr, er, q⟩ => q H μ σ Ext.refl sr er
theorem ss_break : SS X T W (.Break pos) sBreak := PS.imp ps_break fun D σ H ⟨ρ, μ, S, sr, er, q⟩ => q H μ σ Ext.refl sr er
theorem ss_cont : SS X T W (.Continue pos) sCont := PS.imp ps_continue fun D σ H ⟨ρ, μ, S, sr, er, q⟩ => q H μ σ Ext.refl sr er
theorem sss_nil : SSs X T W [] sSkip := PSs.imp pss_nil fun D σ H ⟨ρ, μ, S, sr, er, q⟩ => q H μ σ Ext.refl sr er
theorem sss_one {st : Stmt} {f : MS} (h : SS X T W st f) : SSs X T W [st] f := pss_one h
theorem seq_of {K : PySem.W.Frag} {mg : Str → Option Value} {T : Tb} {H : Hp} {μ : Nat → Addr} {N : Nat} {a b : MS} {ρ : En} {S : Sto} {D : Ends} (q : PstS K mg T W H μ N D (sSeq a b ρ S)) : PstS K mg T W H μ N { D with nx := tOfS K mg T W b D } (a ρ S) := by
  unfold sSeq at q
  cases e : a ρ S with
  | none => rw [e] at q; exact q
  | some p =>
    obtain ⟨r, ρ', S'⟩ := p
    rw [e] at q
    cases r with
    | nx => exact fun H' μ' σ' e' sr' er' => ⟨ρ', μ', S', sr', er', q.step e'⟩
    | bk => exact q
    | ct => exact q
    | rt v => exact q
    | ex c f v => exact q
theorem sss_cons {st : Stmt} {rest : List Stmt} {f g : MS} (h1 : SS X T W st f) (h2 : SSs X T W rest g) : SSs X T W (st :: rest) (sSeq f g) := by
  refine PSs.imp (pss_cons h1 h2) fun D σ H q => ?_
  obtain ⟨ρ, μ, S, sr, er, q⟩ := q
  exact ⟨ρ, μ, S, sr, er, seq_of q⟩
theorem ss_if {c : Expr} {a b : List Stmt} {fc : En → M Bool} {f g : MS} (hc : ST X T W c fc) (ha : SSs X T W a f) (hb : SSs X T W b g) : SS X T W (.If c a b pos) (sIf fc f g) := by
  refine PS.imp (ps_if hc ha hb) fun D σ H q => ?_
  obtain ⟨ρ, μ, S, sr, er, q⟩ := q
  refine ⟨ρ, μ, S, sr, er, ?_⟩
  unfold sIf at q
  cases e : fc ρ S with
  | none => rw [e] at q; exact q
  | some p =>
    obtain ⟨r, S'⟩ := p
    rw [e] at q
    cases r with
    | ok v =>
      cases v with
      | true => exact fun H' μ' x e' sr' rx => by cases (show true = x from rx); exact ⟨ρ, μ', S', sr', er.ext e', q.step e'⟩
      | false => exact fun H' μ' x e' sr' rx => by cases (show false = x from rx); exact ⟨ρ, μ', S', sr', er.ext e', q.step e'⟩
    | exc c g v => exact exc_of er q
/-! ### targets, assignments -/
theorem sg_name (i : Nat) {x : Str} (hN : X.N.Nodup) (hi : X.N[i]? = some x := by rfl) (hx : Loc X.env.scope x := by first | exact Or.inl rfl | exact Or.inr rfl) (hf : X.fn x = true ∨ X.env.scope.names.lookup x = some .local := by first | exact .inl rfl | exact .inr rfl | assumption) : SG X T (.Name x pos) (gNm i) :=
  PG.imp (pg_name hN hi hx hf) fun v σ H Q ⟨ρ, μ, S, w, sr, er, rw_, q⟩ => q H μ _ Ext.refl sr (er.set i rw_)
/-- several targets -/
abbrev SGs (X : Cx) (T : Tb) (es : List Expr) (gs : List (Vl → En → MO En)) : Prop := PGs X es (fun vs σ H Q => ∃ (ρ : En) (μ : Nat → Addr) (S : Sto) (ws : List Vl), SRel X.K X.mg T H μ S ∧ ERel X.K X.mg H μ S.n ρ σ ∧ RpAll X.K X.mg H μ S.n ws vs ∧ PstO X.K X.mg T (fun H' μ' N' ρ' σ' => ERel X.K X.mg H' μ' N' ρ' σ') H μ S.n Q (gTp.go gs ws ρ S))
theorem PGs.imp {X : Cx} {e : List Expr} {t t' : TGs} (h : PGs X e t) (i : ∀ v σ H Q, t' v σ H Q → t v σ H Q) : PGs X e t' := ⟨fun pins s σ H v u Q I r q => h.run pins s σ H v u Q I r (i v σ H Q q)⟩
theorem sgs_nil : SGs X T [] [] := by
  refine PGs.imp pgs_nil fun vs σ H Q q => ?_
  obtain ⟨ρ, μ, S, ws, sr, er, rs, q⟩ := q
  cases rs with
  | nil => exact ⟨rfl, q H μ σ Ext.refl sr er⟩
  | cons _ _ => exact q.elim
theorem sgs_cons {e : Expr} {es : List Expr} {g : Vl → En → MO En} {gs : List (Vl → En → MO En)} (h1 : SG X T e g) (h2 : SGs X T es gs) (hs : (assignEach (e :: es) X.env).map (·.2) = assign e X.env :: (assignEach es X.env).map (·.2) := by rfl) : SGs X T (e :: es) (g :: gs) := by
  refine PGs.imp (pgs_cons h1 h2 hs) fun vs σ H Q q => ?_
  obtain ⟨ρ, μ, S, ws, sr, er, rs, q⟩ := q
  cases rs with
  | nil => exact q.elim
  | cons r1 r2 =>
    rename_i w v ws vs
    refine ⟨v, vs, rfl, ρ, μ, S, w, sr, er, r1, ?_⟩
    have q : PstO X.K X.mg T (fun H' μ' N' ρ' σ' => ERel X.K X.mg H' μ' N' ρ' σ') H μ S.n Q (match g w ρ S with
      | none => none
      | some (ρ', S') => gTp.go gs ws ρ' S') := q
    cases e1 : g w ρ S with
    | none => rw [e1] at q; exact q
    | some p =>
      obtain ⟨ρ1, S1⟩ := p
      rw [e1] at q
      exact fun H' μ' σ' e' sr' er' => ⟨ρ1, μ', S1, ws, sr', er', r2.ext e', PstO.step q e'⟩
theorem sg_tup {es : List Expr} {k : Nat} {gs : List (Vl → En → MO En)} {n : Nat} (hc : X.calm = true) (h : SGs X T es gs) (hl : gs.length = n := by rfl) (hn : (assignEach es X.env).length = n := by rfl) (hst : (assignEach es X.env).findIdx? (·.1) = none := by rfl) : SG X T (.Tuple es k pos) (gTp gs) := by
  refine PG.imp (pg_tup hc h hn hst) fun v σ H Q q => ?_
  obtain ⟨ρ, μ, S, w, sr, er, rw_, q⟩ := q
  cases w with
  | tup xs =>
    obtain ⟨a, vs, rfl, h1, r1⟩ := rw_.tup_at
    refine ⟨a, vs, rfl, h1, ?_, ρ, μ, S, xs, sr, er, r1, q⟩
    rw [← r1.length, ← hl]
    have key : ∀ (gs : List (Vl → En → MO En)) (xs : List Vl) (ρ : En) (S : Sto), gTp.go gs xs ρ S ≠ none → xs.length = gs.length := by
      intro gs
      induction gs with
      | nil => intro xs ρ S hh; cases xs with | nil => rfl | cons _ _ => exact absurd rfl hh
      | cons g gs ih =>
        intro xs ρ S hh
        cases xs with
        | nil => exact absurd rfl hh
        | cons x xs =>
          have hh : (match g x ρ S with | none => none | some (ρ', S') => gTp.go gs xs ρ' S') ≠ none := hh
          cases e1 : g x ρ S with
          | none => rw [e1] at hh; exact absurd rfl hh
          | some p => rw [e1] at hh; simp [ih xs _ _ hh]
    refine key gs xs ρ S fun z => ?_
    have q : PstO X.K X.mg T (fun H' μ' N' ρ' σ' => ERel X.K X.mg H' μ' N' ρ' σ') H μ S.n Q (gTp.go gs xs ρ S) := q
    rw [z] at q; exact q
  | _ => exact q.elim
theorem asg_of {f : En → M Vl} {g : Vl → En → MO En} {D : Ends} {σ : L2.St} {H : Hp} (q : tOfS X.K X.mg T W (sAsg f g) D σ H) : tAsg (tOf X.K X.mg T W f) (tOfG X.K X.mg T g) D σ H := by
  obtain ⟨ρ, μ, S, sr, er, q⟩ := q
  refine ⟨ρ, μ, S, sr, er, ?_⟩
  unfold sAsg at q
  cases e : f ρ S with
  | none => rw [e] at q; exact q
  | some p =>
    obtain ⟨r, S'⟩ := p
    rw [e] at q
    cases r with
    | ok v =>
      intro H' μ' x e' sr' rx
      refine ⟨ρ, μ', S', v, sr', er.ext e', rx, ?_⟩
      simp only at q
      cases e2 : g v ρ S' with
      | none => rw [e2] at q; exact q
      | some p2 =>
        obtain ⟨ρ2, S2⟩ := p2
        rw [e2] at q
        exact fun H2 μ2 σ2 e3 sr3 er3 => q H2 μ2 σ2 (e'.trans e3) sr3 er3
    | exc c g v => exact exc_of er q
theorem ss_set (i : Nat) {x : Str} {e : Expr} {f : En → M Vl} {pos' : Pos} (hN : X.N.Nodup) (he : SE X T W e f) (hi : X.N[i]? = some x := by rfl) (hx : Loc X.env.scope x := by first | exact Or.inl rfl | exact Or.inr rfl)
    (hs : swapsWith e (some (.Name x pos')) pos.line X.env = pure false := by rfl) (hf : X.fn x = true ∨ X.env.scope.names.lookup x = some .local := by first | exact .inl rfl | exact .inr rfl | assumption) : SS X T W (.Assign [.Name x pos'] e pos) (sAsg f (gNm i)) := by
  refine PS.imp (ps_set hN hi hx he hs hf) fun D σ H q => ?_
  obtain ⟨ρ, μ, S, sr, er, q⟩ := q
  refine ⟨ρ, μ, S, sr, er, ?_⟩
  unfold sAsg at q
  cases e : f ρ S with
  | none => rw [e] at q; exact q
  | some p =>
    obtain ⟨r, S'⟩ := p
    rw [e] at q
    cases r with
    | ok v => exact fun H' μ' x e' sr' rx => q H' μ' _ e' sr' ((er.ext e').set i rx)
    | exc c g v => exact exc_of er q
theorem ss_asg {tg e : Expr} {f : En → M Vl} {g : Vl → En → MO En} (he : SE X T W e f) (hg : SG X T tg g) (hs : swapsWithSole [tg] e pos.line X.env = pure false := by rfl) (hw : swappedStores [tg] e X.env = pure none := by rfl)
    (h1 : (assignEach [tg] X.env).map (·.2) = [assign tg X.env] := by rfl) : SS X T W (.Assign [tg] e pos) (sAsg f g) := PS.imp (ps_asg he hg hs hw h1) fun D σ H q => asg_of q
/-- a, b = x, y: plain local names -/
def sPar (is : List Nat) (g : En → M (List Vl)) : MS := fun ρ S => match g ρ S with
  | none => none
  | some (.ok vs, S') => if vs.length = is.length then some (.nx, (is.zip vs).foldl (fun ρ p => ρ.set p.1 (some p.2)) ρ, S') else none
  | some (.exc c g v, S') => some (.ex c g v, ρ, S')
theorem ss_par (i j : Nat) {x y : Str} {a b : Expr} {g : En → M (List Vl)} {px py pt : Pos} {kt k2 pt2} (hc : X.calm = true) (hN : X.N.Nodup) (ha : SA X T W [a, b] g)
    (hw : swappedStores [.Tuple [.Name x px, .Name y py] kt pt] (.Tuple [a, b] k2 pt2) X.env = pure (some [x, y])) (hi : X.N[i]? = some x := by rfl) (hj : X.N[j]? = some y := by rfl) (hij : i ≠ j := by decide)
    (hx : X.env.scope.names.lookup x = some .local := by rfl) (hy : X.env.scope.names.lookup y = some .local := by rfl)
    (hs : swapsWithSole [.Tuple [.Name x px, .Name y py] kt pt] (.Tuple [a, b] k2 pt2) pos.line X.env = pure false := by rfl) :
    SS X T W (.Assign [.Tuple [.Name x px, .Name y py] kt pt] (.Tuple [a, b] k2 pt2) pos) (sPar [i, j] g) := by
  refine PS.imp (ps_par hc hN hi hj hij hx hy ha hw hs) fun D σ H q => ?_
  obtain ⟨ρ, μ, S, sr, er, q⟩ := q
  refine ⟨ρ, μ, S, sr, er, ?_⟩
  unfold sPar at q
  cases e : g ρ S with
  | none => rw [e] at q; exact q
  | some p =>
    obtain ⟨r, S'⟩ := p
    rw [e] at q
    cases r with
    | ok vs =>
      intro H' μ' xs e' sr' rx
      simp only at q
      match vs, rx, q with
      | [v, w], .cons r1 (.cons r2 .nil), q => exact ⟨_, _, rfl, q H' μ' _ e' sr' (((er.ext e').set i r1).set j r2)⟩
      | [], _, q => exact q.elim
      | [_], _, q => exact q.elim
      | _ :: _ :: _ :: _, _, q => rw [if_neg (by simp)] at q; exact q.elim
    | exc c g v => exact exc_of er q
/-- a, b, c = x, y, z -/
theorem ss_par3 (i j l : Nat) {x y z : Str} {a b c : Expr} {g : En → M (List Vl)} {px py pz pt : Pos} {kt k2 pt2} (hc : X.calm = true) (hN : X.N.Nodup) (ha : SA X T W [a, b, c] g)
    (hw : swappedStores [.Tuple [.Name x px, .Name y py, .Name z pz] kt pt] (.Tuple [a, b, c] k2 pt2) X.env = pure (some [x, y, z])) (hi : X.N[i]? = some x := by rfl) (hj : X.N[j]? = some y := by rfl) (hl : X.N[l]? = some z := by rfl)
    (hij : i ≠ j := by decide) (hil : i ≠ l := by decide) (hjl : j ≠ l := by decide)
    (hx : X.env.scope.names.lookup x = some .local := by rfl) (hy : X.env.scope.names.lookup y = some .local := by rfl) (hz : X.env.scope.names.lookup z = some .local := by rfl)
    (hs : swapsWithSole [.Tuple [.Name x px, .Name y py, .Name z pz] kt pt] (.Tuple [a, b, c] k2 pt2) pos.line X.env = pure false := by rfl) :
    SS X T W (.Assign [.Tuple [.Name x px, .Name y py, .Name z pz] kt pt] (.Tuple [a, b, c] k2 pt2) pos) (sPar [i, j, l] g) := by
  refine PS.imp (ps_par3 hc hN hi hj hl hij hil hjl hx hy hz ha hw hs) fun D σ H q => ?_
  obtain ⟨ρ, μ, S, sr, er, q⟩ := q
  refine ⟨ρ, μ, S, sr, er, ?_⟩
  unfold sPar at q
  cases e : g ρ S with
  | none => rw [e] at q; exact q
  | some p =>
    obtain ⟨r, S'⟩ := p
    rw [e] at q
    cases r with
    | ok vs =>
      intro H' μ' xs e' sr' rx
      simp only at q
      match vs, rx, q with
      | [v, w, u], .cons r1 (.cons r2 (.cons r3 .nil)), q => exact ⟨_, _, _, rfl, q H' μ' _ e' sr' ((((er.ext e').set i r1).set j r2).set l r3)⟩
      | [], _, q => exact q.elim
      | [_], _, q => exact q.elim
      | [_, _], _, q => exact q.elim
      | _ :: _ :: _ :: _ :: _, _, q => rw [if_neg (by simp)] at q; exact q.elim
    | exc c g v => exact exc_of er q
/-- a op= b -/
def ipOf (K : PySem.W.Frag) (mg : Str → Option Value) (T : Tb) (m : Vl → Vl → MO Vl) : TIp := rOf K mg T m
abbrev IpS (X : Cx) (T : Tb) (op : Operator) (m : Vl → Vl → MO Vl) : Prop := PIp X op (rOf X.K X.mg T m)
theorem ss_aug (i : Nat) {x : Str} {e : Expr} {f : En → M Vl} {op : Operator} {m : Vl → Vl → MO Vl} {pos' : Pos} (hN : X.N.Nodup) (he : SE X T W e f) (ho : IpS X T op m) (hi : X.N[i]? = some x := by rfl) (hx : Loc X.env.scope x := by first | exact Or.inl rfl | exact Or.inr rfl)
    (hf : X.fn x = true ∨ X.env.scope.names.lookup x = some .local := by first | exact .inl rfl | exact .inr rfl | assumption) : SS X T W (.AugAssign (.Name x pos') op e pos) (sAug i f m) := by
  refine PS.imp (ps_aug hN hi hx he ho hf) fun D σ H q => ?_
  obtain ⟨ρ, μ, S, sr, er, q⟩ := q
  unfold sAug at q
  cases e0 : ρ[i]? with
  | none => rw [e0] at q; exact q.elim
  | some o =>
    cases o with
    | none => rw [e0] at q; exact q.elim
    | some w =>
      rw [e0] at q
      simp only at q
      obtain ⟨x0, h1, h2⟩ := er.at_ i w e0
      refine ⟨x0, h1, ρ, μ, S, sr, er, ?_⟩
      cases e : f ρ S with
      | none => rw [e] at q; exact q
      | some p =>
        obtain ⟨r, S'⟩ := p
        rw [e] at q
        cases r with
        | ok v =>
          intro H' μ' y e' sr' ry
          refine ⟨μ', S', w, v, sr', h2.ext e', ry, ?_⟩
          simp only at q
          cases e2 : m w v S' with
          | none => rw [e2] at q; exact q
          | some p2 =>
            obtain ⟨z, S2⟩ := p2
            rw [e2] at q
            exact fun H2 μ2 x2 e3 sr3 r3 => q H2 μ2 _ (e'.trans e3) sr3 ((er.ext (e'.trans e3)).set i r3)
        | exc c g v => exact exc_of er q
theorem ip_of {op : Operator} {m : Vl → Vl → MO Vl} (ho : OpS X T (inplaceOp op) m) : IpS X T op m := ho
end

/-! ### in-place operators -/
def iAdd : Vl → Vl → MO Vl := fun a b S =>
  match a, b with
  | .int i, .int j => some (.int (i + j), S)
  | .str i, .str j => if i.length + j.length ≤ sizeLine then some (.str (i ++ j), S) else none
  | _, _ => none
def iSub : Vl → Vl → MO Vl := bSub
section
variable {X : Cx} {T : Tb}
theorem os_iadd : OpS X T (inplaceOp .Add) iAdd := by
  intro pins s σ H x y v u Q I rx ry h
  obtain ⟨μ, S, a, b, sr, ra, rb, h⟩ := h
  cases a with
  | int i =>
    cases b with
    | int j => cases ra; cases rb; exact iop_add pins s σ H _ _ v u Q I rx ry ⟨i, j, rfl, rfl, h.here sr (.int _)⟩
    | _ => exact h.elim
  | str i =>
    cases b with
    | str j =>
      cases ra; cases rb
      have h : PstO X.K X.mg T (rl X.K X.mg) H μ S.n Q (if i.length + j.length ≤ sizeLine then some (.str (i ++ j), S) else none) := h
      by_cases hz : i.length + j.length ≤ sizeLine
      · rw [if_pos hz] at h
        exact iop_add_str pins s σ H _ _ v u Q I rx ry ⟨i, j, rfl, rfl, hz, h.here sr (.str _)⟩
      · rw [if_neg hz] at h; exact h.elim
    | _ => exact h.elim
  | _ => exact h.elim
theorem os_isub : OpS X T (inplaceOp .Sub) iSub := by
  intro pins s σ H x y v u Q I rx ry h
  obtain ⟨μ, S, a, b, sr, ra, rb, h⟩ := h
  cases a with
  | int i =>
    cases b with
    | int j => cases ra; cases rb; exact iop_sub pins s σ H _ _ v u Q I rx ry ⟨i, j, rfl, rfl, h.here sr (.int _)⟩
    | _ => exact h.elim
  | _ => exact h.elim
end

/-! ### while -/
open Classical in
noncomputable def lim {α : Type} (f : Nat → Option α) : Option α := if h : ∃ n, (f n).isSome = true then f (Classical.choose h) else none
theorem lim_some {α : Type} {f : Nat → Option α} {r : α} (h : lim f = some r) : ∃ n, f n = some r := by
  unfold lim at h
  split at h
  · exact ⟨_, h⟩
  · cases h
def whN (c : En → M Bool) (b : MS) : Nat → MS
  | 0 => fun _ _ => none
  | n + 1 => fun ρ S => match c ρ S with
    | none => none
    | some (.exc c g v, S') => some (.ex c g v, ρ, S')
    | some (.ok false, S') => some (.nx, ρ, S')
    | some (.ok true, S') => match b ρ S' with
      | some (.nx, ρ', S2) => whN c b n ρ' S2
      | some (.ct, ρ', S2) => whN c b n ρ' S2
      | some (.bk, ρ', S2) => some (.nx, ρ', S2)
      | o => o
noncomputable def sWhile (c : En → M Bool) (b : MS) : MS := fun ρ S => lim fun n => whN c b n ρ S
section
variable {X : Cx} {T : Tb} {W : WX} {pos : Pos}
theorem pstS_lim {K : PySem.W.Frag} {mg : Str → Option Value} {T : Tb} {H : Hp} {μ : Nat → Addr} {N : Nat} {D : Ends} {f : Nat → Option (Fl × En × Sto)} (h : PstS K mg T W H μ N D (lim f)) : ∃ n, PstS K mg T W H μ N D (f n) := by
  cases e : lim f with
  | none => rw [e] at h; exact h.elim
  | some r =>
    obtain ⟨n, q⟩ := lim_some e
    exact ⟨n, by rw [q, ← e]; exact h⟩
theorem ss_while {c : Expr} {body : List Stmt} {fc : En → M Bool} {b : MS} (hp : PassesOwn (model X.prog X.w) X.A X.env X.xe) (hc : ST X T W c fc) (hb : SSs X T W body b) : SS X T W (.While c body [] pos) (sWhile fc b) := by
  refine PS.imp (ps_while hp hc hb) fun D σ H q => ?_
  obtain ⟨ρ, μ, S, sr, er, q⟩ := q
  obtain ⟨n, q⟩ := pstS_lim q
  refine ⟨fun m σ H => ∃ (ρ : En) (μ : Nat → Addr) (S : Sto), SRel X.K X.mg T H μ S ∧ ERel X.K X.mg H μ S.n ρ σ ∧ PstS X.K X.mg T W H μ S.n D (whN fc b m ρ S), ⟨n, ρ, μ, S, sr, er, q⟩, fun m σ H hw => ?_⟩
  obtain ⟨ρ, μ, S, sr, er, q⟩ := hw
  cases m with
  | zero => exact q.elim
  | succ m =>
    refine ⟨ρ, μ, S, sr, er, ?_⟩
    unfold whN at q
    cases e : fc ρ S with
    | none => rw [e] at q; exact q
    | some p =>
      obtain ⟨r, S'⟩ := p
      rw [e] at q
      cases r with
      | exc c g v => exact exc_of er q
      | ok v =>
        intro H' μ' x e' sr' rx
        cases (show v = x from rx)
        cases v with
        | false => exact q H' μ' σ e' sr' (er.ext e')
        | true =>
          rw [if_pos rfl]
          refine ⟨_, fun σ' H' hh => ⟨m, Nat.lt_succ_self m, hh⟩, ρ, μ', S', sr', er.ext e', ?_⟩
          simp only at q
          cases e2 : b ρ S' with
          | none => rw [e2] at q; exact q
          | some p2 =>
            obtain ⟨r2, ρ2, S2⟩ := p2
            rw [e2] at q
            cases r2 with
            | nx => exact fun H2 μ2 σ2 e3 sr3 er3 => ⟨ρ2, μ2, S2, sr3, er3, q.step (e'.trans e3)⟩
            | ct => exact fun H2 μ2 σ2 e3 sr3 er3 => ⟨ρ2, μ2, S2, sr3, er3, q.step (e'.trans e3)⟩
            | bk => exact fun H2 μ2 σ2 e3 sr3 er3 => q H2 μ2 σ2 (e'.trans e3) sr3 er3
            | rt v => exact fun H2 μ2 x2 e3 sr3 r3 => q H2 μ2 x2 (e'.trans e3) sr3 r3
            | ex c f v => exact fun H2 μ2 σ2 cls d e3 sr3 er3 => q H2 μ2 σ2 cls d (e'.trans e3) sr3 er3
end
end Q

set_option linter.all false
set_option maxRecDepth 100000
set_option maxHeartbeats 400000
namespace Q
open PySem PySem.Spec PyProof.Rows L2

/-! ### what is walked -/
/-- at turn i: none: not known; some none: it stops; some (some v): it yields v -/
abbrev Nxt := Nat → Sto → Option (Option Vl)
structure ItR (K : PySem.W.Frag) (mg : Str → Option Value) (T : Tb) (H₀ : Hp) (μ₀ : Nat → Addr) (N₀ : Nat) (nx : Nxt) (J : It) : Prop where
  stop : ∀ i H μ S, Ext H₀ μ₀ N₀ H μ S.n → SRel K mg T H μ S → nx i S = some none → J.stop i H
  go : ∀ i H μ S v, Ext H₀ μ₀ N₀ H μ S.n → SRel K mg T H μ S → nx i S = some (some v) → J.go i H
  yld : ∀ i H μ S v, Ext H₀ μ₀ N₀ H μ S.n → SRel K mg T H μ S → nx i S = some (some v) → ∀ x H', J.yld i H x H' → Ext H μ S.n H' μ S.n ∧ SRel K mg T H' μ S ∧ Rp K mg H' μ S.n v x
def tOfI (K : PySem.W.Frag) (mg : Str → Option Value) (T : Tb) (W : WX) (f : En → M Nxt) : TI := fun σ H R => ∃ (ρ : En) (μ : Nat → Addr) (S : Sto), SRel K mg T H μ S ∧ ERel K mg H μ S.n ρ σ ∧ Pst K mg T (fun cls d H' => W cls d σ H') (fun H' μ' N' nx J => ItR K mg T H' μ' N' nx J) H μ S.n (fun J H' => R J H') (f ρ S)
abbrev SI (X : Cx) (T : Tb) (W : WX) (tg e : Expr) (f : En → M Nxt) : Prop := PI X tg e (tOfI X.K X.mg T W f)
theorem PI.imp {X : Cx} {tg e : Expr} {t t' : TI} (h : PI X tg e t) (i : ∀ σ H R, t' σ H R → t σ H R) : PI X tg e t' := ⟨fun pins s σ H R I q => h.run pins s σ H R I (i σ H R q)⟩

/-- a list as it stands at each turn -/
def nxL (n : Nat) : Nxt := fun i S => match getR S n with
  | some xs => (match xs[i]? with | some v => some (some v) | none => some none)
  | none => none
def nxT (xs : List Vl) : Nxt := fun i _ => some xs[i]?
def nxS (z : Str) : Nxt := fun i _ => some ((z.cps[i]?).map fun c => .str ⟨#[c]⟩)
def nxR (lo : Int) (n : Nat) : Nxt := fun i _ => some (if i < n then some (.int (lo + i)) else none)
def nxE (n : Nat) : Nxt := fun i S => match getR S n with
  | some xs => (match xs[i]? with | some v => some (some (.tup [.int (i : Nat), v])) | none => some none)
  | none => none
def nxZ (n m : Nat) : Nxt := fun i S => match getR S n, getR S m with
  | some xs, some ys => (match xs[i]?, ys[i]? with | some v, some w => some (some (.tup [v, w])) | _, _ => some none)
  | _, _ => none
section
variable {K : PySem.W.Frag} {mg : Str → Option Value} {T : Tb} {H : Hp} {μ : Nat → Addr} {S : Sto} {N : Nat}
theorem read_sq {n : Nat} {xs : List Vl} (sr : SRel K mg T H μ S) (hn : n < S.n) (e : getR S n = some xs) : ∃ vs, SqL K H (μ n) vs ∧ RpAll K mg H μ S.n xs vs := by
  obtain ⟨vs, _, h1, h2⟩ := Rp.read_at sr (.ref n hn) e
  exact ⟨vs, h1, h2⟩
theorem itr_list {H₀ : Hp} {μ₀ : Nat → Addr} {N₀ n : Nat} (hn : n < N₀) : ItR K mg T H₀ μ₀ N₀ (nxL n) (Itl K (μ₀ n)) := by
  refine ⟨fun i H μ S e sr q => ?_, fun i H μ S v e sr q => ?_, fun i H μ S v e sr q x H' y => ?_⟩
  · unfold nxL at q
    cases g : getR S n with
    | none => rw [g] at q; cases q
    | some xs =>
      rw [g] at q
      obtain ⟨vs, h1, h2⟩ := read_sq sr (Nat.lt_of_lt_of_le hn e.le) g
      rw [e.mu n hn] at h1
      refine ⟨vs, h1, ?_⟩
      rw [← h2.length]
      cases z : xs[i]? with
      | none => exact List.getElem?_eq_none_iff.mp z
      | some w => simp only [z] at q; cases q
  · unfold nxL at q
    cases g : getR S n with
    | none => rw [g] at q; cases q
    | some xs =>
      rw [g] at q
      obtain ⟨vs, h1, h2⟩ := read_sq sr (Nat.lt_of_lt_of_le hn e.le) g
      rw [e.mu n hn] at h1
      cases z : xs[i]? with
      | none => simp only [z] at q; cases q
      | some w =>
        obtain ⟨u, h3, h4⟩ := h2.get z
        exact ⟨vs, u, h1, h3⟩
  · unfold nxL at q
    cases g : getR S n with
    | none => rw [g] at q; cases q
    | some xs =>
      rw [g] at q
      obtain ⟨vs, h1, h2⟩ := read_sq sr (Nat.lt_of_lt_of_le hn e.le) g
      rw [e.mu n hn] at h1
      cases z : xs[i]? with
      | none => simp only [z] at q; cases q
      | some w =>
        simp only [z] at q
        cases q
        obtain ⟨u, h3, h4⟩ := h2.get z
        obtain ⟨rfl, hy⟩ := y
        have := hy vs h1
        rw [h3] at this
        cases this
        exact ⟨Ext.refl, sr, h4⟩
theorem itr_tup {H₀ : Hp} {μ₀ : Nat → Addr} {N₀ : Nat} {a : Addr} {xs : List Vl} {vs : List V} (h : SqT K H₀ a vs) (r : RpAll K mg H₀ μ₀ N₀ xs vs) : ItR K mg T H₀ μ₀ N₀ (nxT xs) (Itt K a) := by
  refine ⟨fun i H μ S e sr q => ?_, fun i H μ S v e sr q => ?_, fun i H μ S v e sr q x H' y => ?_⟩
  · refine ⟨vs, e.sqT h, ?_⟩
    rw [← r.length]
    exact List.getElem?_eq_none_iff.mp (Option.some.inj q)
  · obtain ⟨u, h3, h4⟩ := r.get (Option.some.inj q)
    exact ⟨vs, u, e.sqT h, h3⟩
  · obtain ⟨u, h3, h4⟩ := r.get (Option.some.inj q)
    obtain ⟨rfl, hy⟩ := y
    have := hy vs (e.sqT h)
    rw [h3] at this
    cases this
    exact ⟨Ext.refl, sr, h4.ext e⟩
theorem itr_str {H₀ : Hp} {μ₀ : Nat → Addr} {N₀ : Nat} {z : Str} : ItR K mg T H₀ μ₀ N₀ (nxS z) (Its z) := by
  refine ⟨fun i H μ S e sr q => ?_, fun i H μ S v e sr q => ?_, fun i H μ S v e sr q x H' y => ?_⟩
  · have q := Option.some.inj q
    cases w : z.cps[i]? with
    | none => exact Array.getElem?_eq_none_iff.mp w
    | some c => rw [w] at q; cases q
  · have q := Option.some.inj q
    cases w : z.cps[i]? with
    | none => rw [w] at q; cases q
    | some c => exact (Array.getElem?_eq_some_iff.mp w).1
  · have q := Option.some.inj q
    obtain ⟨rfl, c, hc, rfl⟩ := y
    rw [hc] at q
    cases q
    exact ⟨Ext.refl, sr, .str _⟩
theorem itr_rng {H₀ : Hp} {μ₀ : Nat → Addr} {N₀ : Nat} {lo : Int} {n : Nat} : ItR K mg T H₀ μ₀ N₀ (nxR lo n) (Itr lo n) := by
  refine ⟨fun i H μ S e sr q => ?_, fun i H μ S v e sr q => ?_, fun i H μ S v e sr q x H' y => ?_⟩
  · have q := Option.some.inj q
    by_cases h : i < n
    · rw [if_pos h] at q; cases q
    · exact Nat.le_of_not_lt h
  · have q := Option.some.inj q
    by_cases h : i < n
    · exact h
    · rw [if_neg h] at q; cases q
  · have q := Option.some.inj q
    by_cases h : i < n
    · rw [if_pos h] at q
      cases q
      obtain ⟨rfl, rfl⟩ := y
      exact ⟨Ext.refl, sr, .int _⟩
    · rw [if_neg h] at q; cases q
theorem itr_enum {H₀ : Hp} {μ₀ : Nat → Addr} {N₀ n : Nat} (hn : n < N₀) : ItR K mg T H₀ μ₀ N₀ (nxE n) (Ite K (μ₀ n)) := by
  refine ⟨fun i H μ S e sr q => ?_, fun i H μ S v e sr q => ?_, fun i H μ S v e sr q x H' y => ?_⟩
  · unfold nxE at q
    cases g : getR S n with
    | none => rw [g] at q; cases q
    | some xs =>
      rw [g] at q
      obtain ⟨vs, h1, h2⟩ := read_sq sr (Nat.lt_of_lt_of_le hn e.le) g
      rw [e.mu n hn] at h1
      refine ⟨vs, h1, ?_⟩
      rw [← h2.length]
      cases z : xs[i]? with
      | none => exact List.getElem?_eq_none_iff.mp z
      | some w => simp only [z] at q; cases q
  · unfold nxE at q
    cases g : getR S n with
    | none => rw [g] at q; cases q
    | some xs =>
      rw [g] at q
      obtain ⟨vs, h1, h2⟩ := read_sq sr (Nat.lt_of_lt_of_le hn e.le) g
      rw [e.mu n hn] at h1
      cases z : xs[i]? with
      | none => simp only [z] at q; cases q
      | some w =>
        obtain ⟨u, h3, h4⟩ := h2.get z
        exact ⟨vs, u, h1, h3⟩
  · unfold nxE at q
    cases g : getR S n with
    | none => rw [g] at q; cases q
    | some xs =>
      rw [g] at q
      obtain ⟨vs, h1, h2⟩ := read_sq sr (Nat.lt_of_lt_of_le hn e.le) g
      rw [e.mu n hn] at h1
      cases z : xs[i]? with
      | none => simp only [z] at q; cases q
      | some w =>
        simp only [z] at q
        cases q
        obtain ⟨u, h3, h4⟩ := h2.get z
        obtain ⟨T, x1, rfl, hT, rfl, hy⟩ := y
        have := hy vs h1
        rw [h3] at this
        cases this
        have ex : Ext H μ S.n (upd H T (.tup [.int (i : Nat), u])) μ S.n := ext_upd hT _
        exact ⟨ex, sr.laid hT, .tup (.inl (.inl upd_same)) (.cons (.int _) (.cons (h4.ext ex) .nil))⟩
theorem itr_zip {H₀ : Hp} {μ₀ : Nat → Addr} {N₀ n m : Nat} (hn : n < N₀) (hm : m < N₀) : ItR K mg T H₀ μ₀ N₀ (nxZ n m) (Itz K (μ₀ n) (μ₀ m)) := by
  refine ⟨fun i H μ S e sr q => ?_, fun i H μ S v e sr q => ?_, fun i H μ S v e sr q x H' y => ?_⟩
  all_goals
    unfold nxZ at q
    cases g : getR S n with
    | none => rw [g] at q; cases q
    | some xs =>
      cases g2 : getR S m with
      | none => rw [g, g2] at q; cases q
      | some ys =>
        rw [g, g2] at q
        simp only at q
        obtain ⟨vs, h1, h2⟩ := read_sq sr (Nat.lt_of_lt_of_le hn e.le) g
        rw [e.mu n hn] at h1
        obtain ⟨ws, k1, k2⟩ := read_sq sr (Nat.lt_of_lt_of_le hm e.le) g2
        rw [e.mu m hm] at k1
        cases z : xs[i]? with
        | none =>
          cases z2 : ys[i]? with
          | none => first | (refine ⟨vs, ws, h1, k1, .inl ?_⟩; rw [← h2.length]; exact List.getElem?_eq_none_iff.mp z) | (simp only [z, z2] at q; cases q)
          | some w2 => first | (refine ⟨vs, ws, h1, k1, .inl ?_⟩; rw [← h2.length]; exact List.getElem?_eq_none_iff.mp z) | (simp only [z, z2] at q; cases q)
        | some w =>
          cases z2 : ys[i]? with
          | none => first | (refine ⟨vs, ws, h1, k1, .inr ?_⟩; rw [← k2.length]; exact List.getElem?_eq_none_iff.mp z2) | (simp only [z, z2] at q; cases q)
          | some w2 =>
            simp only [z, z2] at q
            cases q
            all_goals
              obtain ⟨u, h3, h4⟩ := h2.get z
              obtain ⟨u2, k3, k4⟩ := k2.get z2
              first
                | exact ⟨vs, ws, u, u2, h1, k1, h3, k3⟩
                | (obtain ⟨T, x1, x2, rfl, hT, rfl, hy, hy2⟩ := y
                   have t1 := hy vs h1
                   rw [h3] at t1
                   cases t1
                   have t2 := hy2 ws k1
                   rw [k3] at t2
                   cases t2
                   have ex : Ext H μ S.n (upd H T (.tup [u, u2])) μ S.n := ext_upd hT _
                   exact ⟨ex, sr.laid hT, .tup (.inl (.inl upd_same)) (.cons (h4.ext ex) (.cons (k4.ext ex) .nil))⟩)
end

/-! ### how a walk begins -/
/-- a value, walked: a list, a tuple, a text -/
def itV : Vl → Option Nxt
  | .ref n => some (nxL n)
  | .tup xs => some (nxT xs)
  | .str z => some (nxS z)
  | _ => none
def mIt (f : En → M Vl) : En → M Nxt := fun ρ => bnd (f ρ) fun v S => match v with
  | .ref n => (match getR S n with | some _ => some (.ok (nxL n), S) | none => none)
  | .tup xs => some (.ok (nxT xs), S)
  | .str z => some (.ok (nxS z), S)
  | _ => none
def asI1 : List Vl → Option Int
  | [.int j] => some j
  | _ => none
def asI2 : List Vl → Option (Int × Int)
  | [.int i, .int j] => some (i, j)
  | _ => none
def asR1 : List Vl → Option Nat
  | [.ref j] => some j
  | _ => none
def asR2 : List Vl → Option (Nat × Nat)
  | [.ref i, .ref j] => some (i, j)
  | _ => none
section
variable {K : PySem.W.Frag} {mg : Str → Option Value} {T : Tb} {H : Hp} {μ : Nat → Addr} {N : Nat} {vs : List Vl} {xs : List V}
theorem asI1_eq {j : Int} (h : asI1 vs = some j) : vs = [.int j] := by
  unfold asI1 at h; split at h
  · cases h; rfl
  · cases h
theorem asI2_eq {p : Int × Int} (h : asI2 vs = some p) : vs = [.int p.1, .int p.2] := by
  unfold asI2 at h; split at h
  · cases h; rfl
  · cases h
theorem asR1_eq {j : Nat} (h : asR1 vs = some j) : vs = [.ref j] := by
  unfold asR1 at h; split at h
  · cases h; rfl
  · cases h
theorem asR2_eq {p : Nat × Nat} (h : asR2 vs = some p) : vs = [.ref p.1, .ref p.2] := by
  unfold asR2 at h; split at h
  · cases h; rfl
  · cases h
theorem asI1_rel {j : Int} (h : asI1 vs = some j) (r : RpAll K mg H μ N vs xs) : xs = [.int j] := by
  rw [asI1_eq h] at r
  cases r with | cons r1 r2 => cases r1; cases r2; rfl
theorem asI2_rel {p : Int × Int} (h : asI2 vs = some p) (r : RpAll K mg H μ N vs xs) : xs = [.int p.1, .int p.2] := by
  rw [asI2_eq h] at r
  cases r with | cons r1 r2 => cases r1; cases r2 with | cons r3 r4 => cases r3; cases r4; rfl
theorem asR1_rel {j : Nat} (h : asR1 vs = some j) (r : RpAll K mg H μ N vs xs) : xs = [.ref (μ j)] ∧ j < N := by
  rw [asR1_eq h] at r
  cases r with | cons r1 r2 => cases r1 with | ref _ hn => cases r2; exact ⟨rfl, hn⟩
theorem asR2_rel {p : Nat × Nat} (h : asR2 vs = some p) (r : RpAll K mg H μ N vs xs) : xs = [.ref (μ p.1), .ref (μ p.2)] ∧ p.1 < N ∧ p.2 < N := by
  rw [asR2_eq h] at r
  cases r with | cons r1 r2 => cases r1 with | ref _ hn => cases r2 with | cons r3 r4 => cases r3 with | ref _ hm => cases r4; exact ⟨rfl, hn, hm⟩
end
def mItR1 (g : En → M (List Vl)) : En → M Nxt := fun ρ => bnd (g ρ) fun vs => match asI1 vs with
  | some j => if -(2 ^ 62) ≤ j ∧ j < 2 ^ 62 then ret (nxR 0 j.toNat) else fail
  | none => fail
def mItR2 (g : En → M (List Vl)) : En → M Nxt := fun ρ => bnd (g ρ) fun vs => match asI2 vs with
  | some (i, j) => if -(2 ^ 62) ≤ i ∧ i < 2 ^ 62 ∧ -(2 ^ 62) ≤ j ∧ j < 2 ^ 62 then ret (nxR i (j - i).toNat) else fail
  | none => fail
def mItE (g : En → M (List Vl)) : En → M Nxt := fun ρ => bnd (g ρ) fun vs S => match asR1 vs with
  | some n => (match getR S n with | some _ => some (.ok (nxE n), S) | none => none)
  | none => none
def mItZ (g : En → M (List Vl)) : En → M Nxt := fun ρ => bnd (g ρ) fun vs S => match asR2 vs with
  | some (n, m) => (match getR S n, getR S m with | some _, some _ => some (.ok (nxZ n m), S) | _, _ => none)
  | none => none
section
variable {X : Cx} {T : Tb} {W : WX} {tg : Expr} {pos p : Pos}
theorem it_list {pins : List (Addr × Obj)} {σ : L2.St} {H : Hp} {s : Shared} {a : Addr} {xs : List V} {R : It → Hp → Prop} (I : Inv X pins σ H s) (hq : SqL X.K H a xs) (q : R (Itl X.K a) H) : wpAny (model X.prog X.w) X.A (pyIter (.ref a)) (PIE X pins σ tg R) X.xe s := by
  obtain ⟨its, rv, p, hz⟩ := I.list hq
  refine wpAny_pyIter_list p.isList ?_
  refine ⟨s.heap.objs.size, [s.heap.objs.size], _, _, H, rfl, I.kept (t' := s.toks) fun b o e => Heap.get?_push_of_some _ e, turn_list a _, ⟨_, Heap.get?_push_size _ rfl, rfl, rfl⟩, fun b hb => ?_, q⟩
  have e : b = s.heap.objs.size := by simpa using hb
  subst e
  exact I.fpOk (Nat.le_refl _) (I.hok.fresh (Nat.le_refl _))
theorem it_tup {pins : List (Addr × Obj)} {σ : L2.St} {H : Hp} {s : Shared} {a : Addr} {xs : List V} {R : It → Hp → Prop} (I : Inv X pins σ H s) (hq : SqT X.K H a xs) (q : R (Itt X.K a) H) : wpAny (model X.prog X.w) X.A (pyIter (.ref a)) (PIE X pins σ tg R) X.xe s := by
  obtain ⟨its, rv, p, hz⟩ := I.tuple hq
  refine wpAny_pyIter_tuple (show s.heap.IsTuple a its.toArray from p) ?_
  refine ⟨s.heap.objs.size, [s.heap.objs.size], _, _, H, rfl, I.kept (t' := s.toks) fun b o e => Heap.get?_push_of_some _ e, turn_tuple a _, ⟨_, Heap.get?_push_size _ rfl, rfl, rfl⟩, fun b hb => ?_, q⟩
  have e : b = s.heap.objs.size := by simpa using hb
  subst e
  exact I.fpOk (Nat.le_refl _) (I.hok.fresh (Nat.le_refl _))
theorem it_str {pins : List (Addr × Obj)} {σ : L2.St} {H : Hp} {s : Shared} {x : Str} {t : Tok} {R : It → Hp → Prop} (I : Inv X pins σ H s) (q : R (Its x) H) : wpAny (model X.prog X.w) X.A (pyIter (.str x t)) (PIE X pins σ tg R) X.xe s := by
  cases ha : x.cps.all (· < 128)
  · exact wpAny_pyIter_wide ha (pi_one (tk := s.toks) I _ (turn_str _ x t "str_iterator" (.inr rfl)) ⟨_, Heap.get?_push_size _ rfl, rfl, rfl⟩ q)
  · exact wpAny_pyIter_ascii ha (pi_one (tk := s.toks) I _ (turn_str _ x t "str_ascii_iterator" (.inl rfl)) ⟨_, Heap.get?_push_size _ rfl, rfl, rfl⟩ q)
/-- a list, a tuple or a text walked -/
theorem si_val {e : Expr} {f : En → M Vl} (h : SE X T W e f) : SI X T W tg e (mIt f) := by
  refine ⟨fun pins s σ H R I q => ?_⟩
  obtain ⟨ρ, μ, S, sr, er, q⟩ := q
  refine thn (h.run pins s σ H (fun x H1 => ∀ (u : Value) (s1 : Shared), Inv X pins σ H1 s1 → RelV x u → wpAny (model X.prog X.w) X.A (pyIter u) (PIE X pins σ tg R) X.xe s1) I ⟨ρ, μ, S, sr, er, Pst.bnd_ q fun v S1 H1 μ1 x e1 sr1 rx h1 => ?_⟩) fun u s1 ⟨x, H1, I1, r1, q1⟩ => q1 u s1 I1 r1
  intro u s1 I1 r1
  cases v with
  | ref n =>
    cases rx with
    | ref n hn =>
    have h1 : Pst X.K X.mg T (fun cls d H' => W cls d σ H') (fun H' μ' N' nx J => ItR X.K X.mg T H' μ' N' nx J) H1 μ1 S1.n (fun J H' => R J H') (match getR S1 n with | some _ => some (.ok (nxL n), S1) | none => none) := h1
    cases g : getR S1 n with
    | none => rw [g] at h1; exact h1.elim
    | some xs =>
      rw [g] at h1
      obtain ⟨vs, k1, k2⟩ := read_sq sr1 hn g
      cases r1
      exact it_list I1 k1 (h1 H1 μ1 _ Ext.refl sr1 (itr_list hn))
  | tup xs =>
    obtain ⟨a, vs, rfl, k1, k2⟩ := Rp.tup_at rx
    cases r1
    exact it_tup I1 k1 (h1 H1 μ1 _ Ext.refl sr1 (itr_tup k1 k2))
  | str z =>
    cases rx
    obtain ⟨t, rfl⟩ := r1
    exact it_str I1 (h1 H1 μ1 _ Ext.refl sr1 itr_str)
  | _ => exact h1.elim
theorem si_rng1 {a : Expr} {g : En → M (List Vl)} (hm : X.mg "range" = none) (h : SA X T W [a] g) (hg : Gl X "range" := by rfl) (hs : starEach [a] X.env = [(false, eval a X.env)] := by rfl) : SI X T W tg (.Call (.Name "range" p) [a] [] pos) (mItR1 g) := by
  refine PI.imp (pi_range1 hg hm h hs) fun σ H R q => ?_
  obtain ⟨ρ, μ, S, sr, er, q⟩ := q
  refine ⟨ρ, μ, S, sr, er, Pst.bnd_ q fun vs S1 H1 μ1 x e1 sr1 rx h1 => ?_⟩
  cases e : asI1 vs with
  | none => rw [e] at h1; exact h1.elim
  | some j =>
    rw [e] at h1
    simp only at h1
    by_cases hz : -(2 ^ 62) ≤ j ∧ j < 2 ^ 62
    · rw [if_pos hz] at h1
      exact ⟨j, asI1_rel e rx, hz.1, hz.2, h1 H1 μ1 _ Ext.refl sr1 itr_rng⟩
    · rw [if_neg hz] at h1; exact h1.elim
theorem si_rng2 {a b : Expr} {g : En → M (List Vl)} (hm : X.mg "range" = none) (h : SA X T W [a, b] g) (hg : Gl X "range" := by rfl) (hs : starEach [a, b] X.env = [(false, eval a X.env), (false, eval b X.env)] := by rfl) (hs2 : starEach [b] X.env = [(false, eval b X.env)] := by rfl) : SI X T W tg (.Call (.Name "range" p) [a, b] [] pos) (mItR2 g) := by
  refine PI.imp (pi_range2 hg hm h hs hs2) fun σ H R q => ?_
  obtain ⟨ρ, μ, S, sr, er, q⟩ := q
  refine ⟨ρ, μ, S, sr, er, Pst.bnd_ q fun vs S1 H1 μ1 x e1 sr1 rx h1 => ?_⟩
  cases e : asI2 vs with
  | none => rw [e] at h1; exact h1.elim
  | some p =>
    obtain ⟨i, j⟩ := p
    rw [e] at h1
    simp only at h1
    by_cases hz : -(2 ^ 62) ≤ i ∧ i < 2 ^ 62 ∧ -(2 ^ 62) ≤ j ∧ j < 2 ^ 62
    · rw [if_pos hz] at h1
      exact ⟨i, j, asI2_rel e rx, hz, h1 H1 μ1 _ Ext.refl sr1 itr_rng⟩
    · rw [if_neg hz] at h1; exact h1.elim
theorem si_enum {a : Expr} {elts : List Expr} {kk : Nat} {tpos : Pos} {g : En → M (List Vl)} (hm : X.mg "enumerate" = none) (h : SA X T W [a] g) (hg : Gl X "enumerate" := by rfl) (hs : starEach [a] X.env = [(false, eval a X.env)] := by rfl) : SI X T W (.Tuple elts kk tpos) (.Call (.Name "enumerate" p) [a] [] pos) (mItE g) := by
  refine PI.imp (pi_enum hg hm h hs) fun σ H R q => ?_
  obtain ⟨ρ, μ, S, sr, er, q⟩ := q
  refine ⟨ρ, μ, S, sr, er, Pst.bnd_ q fun vs S1 H1 μ1 x e1 sr1 rx h1 => ?_⟩
  cases e : asR1 vs with
  | none => simp only [e] at h1; exact h1.elim
  | some n =>
    simp only [e] at h1
    obtain ⟨h2, hn⟩ := asR1_rel e rx
    cases g : getR S1 n with
    | none => rw [g] at h1; exact h1.elim
    | some xs =>
      rw [g] at h1
      obtain ⟨ws, k1, k2⟩ := read_sq sr1 hn g
      exact ⟨_, ws, h2, k1, h1 H1 μ1 _ Ext.refl sr1 (itr_enum hn)⟩
theorem si_zip {a b : Expr} {elts : List Expr} {kk : Nat} {tpos : Pos} {g : En → M (List Vl)} (hm : X.mg "zip" = none) (h : SA X T W [a, b] g) (hg : Gl X "zip" := by rfl) (hs : starEach [a, b] X.env = (false, eval a X.env) :: starEach [b] X.env := by rfl)
    (hpl : (backTo pos (starEach [b] X.env)).any (·.1) = false := by rfl) : SI X T W (.Tuple elts kk tpos) (.Call (.Name "zip" p) [a, b] [] pos) (mItZ g) := by
  refine PI.imp (pi_zip hg hm h hs hpl) fun σ H R q => ?_
  obtain ⟨ρ, μ, S, sr, er, q⟩ := q
  refine ⟨ρ, μ, S, sr, er, Pst.bnd_ q fun vs S1 H1 μ1 x e1 sr1 rx h1 => ?_⟩
  cases e : asR2 vs with
  | none => simp only [e] at h1; exact h1.elim
  | some p =>
    obtain ⟨n, m⟩ := p
    simp only [e] at h1
    obtain ⟨h2, hn, hm⟩ := asR2_rel e rx
    cases g : getR S1 n with
    | none => rw [g] at h1; exact h1.elim
    | some xs =>
      cases g2 : getR S1 m with
      | none => rw [g, g2] at h1; exact h1.elim
      | some ys =>
        rw [g, g2] at h1
        obtain ⟨ws, k1, k2⟩ := read_sq sr1 hn g
        obtain ⟨us, l1, l2⟩ := read_sq sr1 hm g2
        exact ⟨_, _, ws, us, h2, k1, l1, h1 H1 μ1 _ Ext.refl sr1 (itr_zip hn hm)⟩
end

/-! ### for -/
def forN (nx : Nxt) (g : Vl → En → MO En) (b : MS) : Nat → Nat → MS
  | 0, _ => fun _ _ => none
  | n + 1, i => fun ρ S => match nx i S with
    | none => none
    | some none => some (.nx, ρ, S)
    | some (some v) => match g v ρ S with
      | none => none
      | some (ρ1, S1) => match b ρ1 S1 with
        | some (.nx, ρ', S2) => forN nx g b n (i + 1) ρ' S2
        | some (.ct, ρ', S2) => forN nx g b n (i + 1) ρ' S2
        | some (.bk, ρ', S2) => some (.nx, ρ', S2)
        | o => o
noncomputable def sFor (fi : En → M Nxt) (g : Vl → En → MO En) (b : MS) : MS := fun ρ S => match fi ρ S with
  | none => none
  | some (.exc c f v, S') => some (.ex c f v, ρ, S')
  | some (.ok nx, S') => lim fun n => forN nx g b n 0 ρ S'
section
variable {X : Cx} {T : Tb} {W : WX} {tg : Expr} {pos p : Pos}
theorem ss_for {iter : Expr} {body : List Stmt} {fi : En → M Nxt} {g : Vl → En → MO En} {b : MS} (hp : PassesOwn (model X.prog X.w) X.A X.env X.xe) (hc : X.calm = true) (hi : SI X T W tg iter fi) (hg : SG X T tg g) (hb : SSs X T W body b)
    (hs : ∀ x, foldedSetIterable iter X.env x = pure x := by intro _; rfl) : SS X T W (.For tg iter body [] pos) (sFor fi g b) := by
  refine PS.imp (ps_for hp hc hi hg hb hs) fun D σ H q => ?_
  obtain ⟨ρ, μ, S, sr, er, q⟩ := q
  refine ⟨ρ, μ, S, sr, er, ?_⟩
  unfold sFor at q
  cases e : fi ρ S with
  | none => rw [e] at q; exact q
  | some pp =>
    obtain ⟨r, S'⟩ := pp
    rw [e] at q
    cases r with
    | exc c f v => exact exc_of er q
    | ok nx =>
      intro H₁ μ₁ J e' sr' ir
      obtain ⟨n, q⟩ := pstS_lim q
      refine ⟨fun i m σ H => ∃ (ρ : En) (μ : Nat → Addr) (S : Sto), Ext H₁ μ₁ S'.n H μ S.n ∧ SRel X.K X.mg T H μ S ∧ ERel X.K X.mg H μ S.n ρ σ ∧ PstS X.K X.mg T W H μ S.n D (forN nx g b m i ρ S), ⟨n, ρ, μ₁, S', Ext.refl, sr', er.ext e', q.step e'⟩, fun i m σ H hw => ?_⟩
      obtain ⟨ρ, μ, S, ex, sr, er, q⟩ := hw
      cases m with
      | zero => exact q.elim
      | succ m =>
        unfold forN at q
        cases en : nx i S with
        | none => rw [en] at q; exact q.elim
        | some o =>
          rw [en] at q
          cases o with
          | none => exact .inl ⟨ir.stop i H μ S ex sr en, q H μ σ Ext.refl sr er⟩
          | some v =>
            refine .inr ⟨ir.go i H μ S v ex sr en, _, fun σ' H' hh => ⟨m, Nat.lt_succ_self m, hh⟩, fun x H' y => ?_⟩
            obtain ⟨e2, sr2, r2⟩ := ir.yld i H μ S v ex sr en x H' y
            refine ⟨ρ, μ, S, v, sr2, er.ext e2, r2, ?_⟩
            simp only at q
            cases eg : g v ρ S with
            | none => rw [eg] at q; exact q
            | some p1 =>
              obtain ⟨ρ1, S1⟩ := p1
              rw [eg] at q
              intro H3 μ3 σ3 e3 sr3 er3
              refine ⟨ρ1, μ3, S1, sr3, er3, ?_⟩
              have e13 := e2.trans e3
              simp only at q
              cases eb : b ρ1 S1 with
              | none => rw [eb] at q; exact q
              | some p2 =>
                obtain ⟨f2, ρ2, S2⟩ := p2
                rw [eb] at q
                cases f2 with
                | nx => exact fun H4 μ4 σ4 e4 sr4 er4 => ⟨ρ2, μ4, S2, ex.trans (e13.trans e4), sr4, er4, q.step (e13.trans e4)⟩
                | ct => exact fun H4 μ4 σ4 e4 sr4 er4 => ⟨ρ2, μ4, S2, ex.trans (e13.trans e4), sr4, er4, q.step (e13.trans e4)⟩
                | bk => exact fun H4 μ4 σ4 e4 sr4 er4 => q H4 μ4 σ4 (e13.trans e4) sr4 er4
                | rt v => exact fun H4 μ4 x4 e4 sr4 r4 => q H4 μ4 x4 (e13.trans e4) sr4 r4
                | ex c f v => exact fun H4 μ4 σ4 cls d e4 sr4 er4 => q H4 μ4 σ4 cls d (e13.trans e4) sr4 er4
end
end Q

set_option linter.all false
set_option maxRecDepth 100000
set_option maxHeartbeats 400000
namespace Q
open PySem PySem.Spec PyProof.Rows L2

/-! ### comprehensions -/
inductive Tg where
  | nm (i : Nat) | tp (is : List Nat)
def setAll : List Nat → List Vl → En → Option En
  | [], [], ρ => some ρ
  | i :: is, x :: xs, ρ => setAll is xs (ρ.set i (some x))
  | _, _, _ => none
def Tg.run : Tg → Vl → En → Option En
  | .nm i, v, ρ => some (ρ.set i (some v))
  | .tp is, .tup xs, ρ => setAll is xs ρ
  | .tp _, _, _ => none
def Tg.slots : Tg → List Nat
  | .nm i => [i]
  | .tp is => is
def gNms : List Nat → TGs
  | [] => gNil
  | i :: is => gCons (gName i) (gNms is)
def Tg.rd (K : PySem.W.Frag) : Tg → TG
  | .nm i => gName i
  | .tp is => gTup K is.length (gNms is)
def wipeE (ρ : En) : List Nat → En
  | [] => ρ
  | v :: vs => (wipeE ρ vs).set v none
theorem wipe_set {σ : L2.St} {i : Nat} {x : Option V} : ∀ {vs : List Nat}, i ∈ vs → wipe (σ.set i x) vs = wipe σ vs
  | v :: vs, h => by
    unfold wipe
    by_cases e : i ∈ vs
    · rw [wipe_set e]
    · have e2 : i = v := by
        rcases List.mem_cons.mp h with z | z
        · exact z
        · exact absurd z e
      subst e2
      have key : ∀ {vs : List Nat}, i ∉ vs → wipe (σ.set i x) vs = (wipe σ vs).set i x := by
        intro vs
        induction vs with
        | nil => intro _; rfl
        | cons w ws ih =>
          intro hn
          unfold wipe
          rw [ih (fun z => hn (List.mem_cons_of_mem _ z)), List.set_comm _ _ (fun z => hn (by rw [z]; exact List.mem_cons_self))]
      rw [key e, List.set_set]
theorem wipe_wipe {σ : L2.St} : ∀ (vs ws : List Nat), (∀ v ∈ vs, v ∈ ws) → wipe (wipe σ vs) ws = wipe σ ws
  | [], _, _ => rfl
  | v :: vs, ws, h => by
    show wipe ((wipe σ vs).set v none) ws = _
    rw [wipe_set (h v List.mem_cons_self), wipe_wipe vs ws (fun u hu => h u (List.mem_cons_of_mem _ hu))]
section
variable {K : PySem.W.Frag} {mg : Str → Option Value} {T : Tb} {H : Hp} {μ : Nat → Addr} {N : Nat}
theorem ERel.unset {ρ : En} {σ : L2.St} (h : ERel K mg H μ N ρ σ) (i : Nat) {o : Option V} : ERel K mg H μ N (ρ.set i none) (σ.set i o) := by
  refine ⟨by simp [h.len], fun j w q => ?_⟩
  by_cases e : i = j
  · subst e
    by_cases hl : i < ρ.length
    · rw [List.getElem?_set_self hl] at q; cases q
    · rw [List.getElem?_eq_none (by simpa using hl)] at q; cases q
  · rw [List.getElem?_set_ne e] at q
    obtain ⟨y, h1, h2⟩ := h.at_ j w q
    exact ⟨y, by rw [List.getElem?_set_ne e]; exact h1, h2⟩
theorem ERel.wipe {ρ : En} {σ : L2.St} (h : ERel K mg H μ N ρ σ) : ∀ vs, ERel K mg H μ N (wipeE ρ vs) (wipe σ vs)
  | [] => h
  | v :: vs => (ERel.wipe h vs).unset v
theorem gNms_of {ws : List Nat} : ∀ {is : List Nat} {xs : List Vl} {vs : List V} {ρ ρ1 : En} {σ : L2.St} {Q : L2.St → Hp → Prop}, setAll is xs ρ = some ρ1 → RpAll K mg H μ N xs vs → ERel K mg H μ N ρ σ → (∀ i ∈ is, i ∈ ws) →
    (∀ σ2, ERel K mg H μ N ρ1 σ2 → L2.wipe σ2 ws = L2.wipe σ ws → Q σ2 H) → gNms is vs σ H Q
  | [], [], _, _, _, σ, _, e, .nil, er, _, q => by cases e; exact ⟨rfl, q σ er rfl⟩
  | i :: is, x :: xs, _, _, _, σ, _, e, .cons r rs, er, hs, q => by
    refine ⟨_, _, rfl, gNms_of (ws := ws) e rs (er.set i r) (fun j hj => hs j (List.mem_cons_of_mem _ hj)) fun σ2 e2 w2 => q σ2 e2 ?_⟩
    rw [w2, wipe_set (hs i List.mem_cons_self)]
  | [], _ :: _, _, _, _, _, _, e, _, _, _, _ => by cases e
  | _ :: _, [], _, _, _, _, _, e, _, _, _, _ => by cases e
theorem setAll_len : ∀ {is : List Nat} {xs : List Vl} {ρ ρ1 : En}, setAll is xs ρ = some ρ1 → is.length = xs.length
  | [], [], _, _, _ => rfl
  | _ :: is, _ :: xs, _, _, e => by
    have := setAll_len (is := is) (xs := xs) e
    simp [this]
  | [], _ :: _, _, _, e => by cases e
  | _ :: _, [], _, _, e => by cases e
theorem Tg.rd_of {t : Tg} {v : Vl} {x : V} {ρ ρ1 : En} {σ : L2.St} {ws : List Nat} {Q : L2.St → Hp → Prop} (e : t.run v ρ = some ρ1) (r : Rp K mg H μ N v x) (er : ERel K mg H μ N ρ σ) (hs : ∀ i ∈ t.slots, i ∈ ws)
    (q : ∀ σ2, ERel K mg H μ N ρ1 σ2 → L2.wipe σ2 ws = L2.wipe σ ws → Q σ2 H) : t.rd K x σ H Q := by
  cases t with
  | nm i =>
    cases e
    exact q _ (er.set i r) (wipe_set (hs i List.mem_cons_self))
  | tp is =>
    cases v with
    | tup xs =>
      obtain ⟨a, vs, rfl, h1, r1⟩ := r.tup_at
      exact ⟨a, vs, rfl, h1, by rw [← r1.length, setAll_len e], gNms_of e r1 er hs q⟩
    | _ => cases e
end
def lcN (nx : Nxt) (t : Tg) (c : En → M Bool) (f : En → M Vl) (D : Nat) (ρ : En) : Nat → Nat → Sto → Option Sto
  | 0, _, _ => none
  | n + 1, i, S => match nx i S with
    | none => none
    | some none => some S
    | some (some v) => match t.run v ρ with
      | none => none
      | some ρ1 => match c ρ1 S with
        | some (.ok true, S1) => (match f ρ1 S1 with
          | some (.ok y, S2) => (match S2.at_ D with
            | .lst acc => if acc.length < sizeLine then lcN nx t c f D ρ n (i + 1) (S2.set D (.lst (acc ++ [y]))) else none
            | _ => none)
          | _ => none)
        | some (.ok false, S1) => lcN nx t c f D ρ n (i + 1) S1
        | _ => none
noncomputable def mLc (fi : En → M Nxt) (t : Tg) (c : En → M Bool) (f : En → M Vl) (vs : List Nat) : En → M Vl := fun ρ S => match fi ρ S with
  | none => none
  | some (.exc c g v, S') => some (.exc c g v, S')
  | some (.ok nx, S') => match lim fun n => lcN nx t c f S'.n (wipeE ρ vs) n 0 (S'.push (.lst [])) with
    | none => none
    | some S2 => some (.ok (.ref S'.n), S2)
abbrev W0 : WX := fun _ _ _ _ => False
def mTrue : En → M Bool := fun _ => ret true
section
variable {X : Cx} {T : Tb} {W : WX} {tg : Expr} {pos p : Pos}
abbrev STs (X : Cx) (T : Tb) (W : WX) (es : List Expr) (f : En → M Bool) : Prop := PTs X es (tOfT X.K X.mg T W f)
theorem PTs.imp {X : Cx} {es : List Expr} {t t' : TT} (h : PTs X es t) (i : ∀ σ H Q, t' σ H Q → t σ H Q) : PTs X es t' := ⟨fun pins s σ H Q I q => h.run pins s σ H Q I (i σ H Q q)⟩
theorem sts_nil : STs X T W [] mTrue := PTs.imp pts_nil fun σ H Q ⟨ρ, μ, S, sr, er, q⟩ => Pst.here (x := true) q sr rfl
theorem sts_one {c : Expr} {f : En → M Bool} (h : ST X T W c f) : STs X T W [c] f := pts_one h
theorem lc_of {K : PySem.W.Frag} {mg : Str → Option Value} {T : Tb} {W : WX} {fi : En → M Nxt} {t : Tg} {c : En → M Bool} {f : En → M Vl} {vs : List Nat} (hs : ∀ i ∈ t.slots, i ∈ vs) {σ : L2.St} {H : Hp} {Q : VK} (q : tOf K mg T W (mLc fi t c f vs) σ H Q) :
    tLc (tOfI K mg T W fi) (t.rd K) (tOfT K mg T W0 c) (tOf K mg T W0 f) vs σ H Q := by
  obtain ⟨ρ, μ, S, sr, er, q⟩ := q
  refine ⟨ρ, μ, S, sr, er, ?_⟩
  unfold mLc at q
  cases e : fi ρ S with
  | none => rw [e] at q; exact q
  | some pp =>
    obtain ⟨r, S'⟩ := pp
    rw [e] at q
    cases r with
    | exc c f v => exact q
    | ok nx =>
      intro H₁ μ₁ J e' sr' ir D hD
      simp only at q
      cases el : lim fun n => lcN nx t c f S'.n (wipeE ρ vs) n 0 (S'.push (.lst [])) with
      | none => rw [el] at q; exact q.elim
      | some Sf =>
        rw [el] at q
        obtain ⟨n, el⟩ := lim_some el
        have eN := ext_new (μ := μ₁) (o := HO.lst []) hD S'.n (S'.n + 1) (Nat.le_succ _)
        have srN : SRel K mg T (upd H₁ D (.lst [])) (mu1 μ₁ S'.n D) (S'.push (.lst [])) := sr'.push hD ⟨[], upd_same, .nil⟩
        refine ⟨fun i m H => ∃ (μ : Nat → Addr) (S : Sto), Ext (upd H₁ D (.lst [])) (mu1 μ₁ S'.n D) (S'.n + 1) H μ S.n ∧ SRel K mg T H μ S ∧ lcN nx t c f S'.n (wipeE ρ vs) m i S = some Sf, ⟨n, _, _, Ext.refl, srN, el⟩, fun i m H hw => ?_⟩
        obtain ⟨μ, S, ex, sr, el⟩ := hw
        have ex1 := eN.trans ex
        have hDn : S'.n < S.n := Nat.lt_of_lt_of_le (Nat.lt_succ_self _) ex.le
        have muD : μ S'.n = D := by rw [ex.mu _ (Nat.lt_succ_self _), mu1_same]
        cases m with
        | zero => cases el
        | succ m =>
          unfold lcN at el
          cases en : nx i S with
          | none => rw [en] at el; cases el
          | some o =>
            rw [en] at el
            cases o with
            | none =>
              cases el
              refine .inl ⟨ir.stop i H μ _ ex1 sr en, ?_⟩
              have := Rp.ref (K := K) (mg := mg) (H := H) (μ := μ) S'.n hDn
              rw [muD] at this
              exact q H μ (.ref D) (e'.trans ex1) sr this
            | some v =>
              refine .inr ⟨ir.go i H μ S v ex1 sr en, _, fun H' hh => ⟨m, Nat.lt_succ_self m, hh⟩, fun x H' y => ?_⟩
              obtain ⟨e2, sr2, r2⟩ := ir.yld i H μ S v ex1 sr en x H' y
              simp only at el
              cases et : t.run v (wipeE ρ vs) with
              | none => rw [et] at el; cases el
              | some ρ1 =>
                rw [et] at el
                have erw : ERel K mg H' μ S.n (wipeE ρ vs) (wipe σ vs) := (er.ext ((e'.trans ex1).trans e2)).wipe vs
                refine Tg.rd_of et r2 erw hs fun σ2 er2 w2 => ⟨by rw [w2, wipe_wipe vs vs fun _ h => h], ρ1, μ, S, sr2, er2, ?_⟩
                simp only at el
                cases ec : c ρ1 S with
                | none => rw [ec] at el; cases el
                | some pc =>
                  obtain ⟨rc, S1⟩ := pc
                  rw [ec] at el
                  cases rc with
                  | exc c f v => cases el
                  | ok b =>
                    intro H3 μ3 b' e3 sr3 rb
                    cases (show b = b' from rb)
                    cases b with
                    | false => exact ⟨μ3, S1, (ex.trans e2).trans e3, sr3, el⟩
                    | true =>
                      rw [if_pos rfl]
                      refine ⟨ρ1, μ3, S1, sr3, er2.ext e3, ?_⟩
                      simp only at el
                      cases ef : f ρ1 S1 with
                      | none => rw [ef] at el; cases el
                      | some pf =>
                        obtain ⟨rf, S2⟩ := pf
                        rw [ef] at el
                        cases rf with
                        | exc c f v => cases el
                        | ok y =>
                          intro H4 μ4 yv e4 sr4 ry
                          have exx := ((ex.trans e2).trans e3).trans e4
                          have hD4 : S'.n < S2.n := Nat.lt_of_lt_of_le (Nat.lt_succ_self _) exx.le
                          have mu4 : μ4 S'.n = D := by rw [exx.mu _ (Nat.lt_succ_self _), mu1_same]
                          simp only at el
                          cases ea : S2.at_ S'.n with
                          | lst acc =>
                            rw [ea] at el
                            simp only at el
                            have ob := sr4.at_ _ hD4
                            rw [ea, mu4] at ob
                            obtain ⟨as, k1, k2⟩ := ob
                            by_cases hz : acc.length < sizeLine
                            · rw [if_pos hz] at el
                              refine ⟨as, k1, by rw [← k2.length]; exact hz, ?_⟩
                              have wr := sr4.write (k := S'.n) (o := .lst (as ++ [yv])) (ob := .lst (acc ++ [y])) hD4 (by rw [ea]; rfl) rfl (by rw [mu4, k1]; intro xs z; cases z) (by rw [mu4, k1]; intro o u z; cases z) (by rw [mu4, k1]; intro o z; cases z) (by rw [mu4, k1]; intro o z; cases z) (fun ew => by
                                rw [mu4] at ew ⊢
                                exact ⟨_, upd_same, (k2.ext ew).append (.cons (ry.ext ew) .nil)⟩)
                              rw [mu4] at wr
                              exact ⟨μ4, S2.set S'.n (.lst (acc ++ [y])), exx.trans wr.2, wr.1, el⟩
                            · rw [if_neg hz] at el; cases el
                          | _ => rw [ea] at el; cases el
/-- [elt for tg in iter if ..] -/
theorem se_lc {elt iter : Expr} {ifs : List Expr} {scope : Scope} (own : List (Str × Nat)) {fi : En → M Nxt} {t : Tg} {c : En → M Bool} {f : En → M Vl} (hc : X.calm = true) (hN : X.N.Nodup) (hi : SI X T W tg iter fi) (ok : BlkOk X.N X.env.scope scope own)
    (hg : ∀ (s : Shared) (H : Hp) (C : Addr) (cl : List (Str × Addr)) (fp : List Addr), PG (X.blk s H scope (compEnvC scope cl C X.env) fp) tg (t.rd X.K)) (ht : ∀ (s : Shared) (H : Hp) (C : Addr) (cl : List (Str × Addr)) (fp : List Addr), STs (X.blk s H scope (compEnvC scope cl C X.env) fp) T W0 ifs c)
    (he : ∀ (s : Shared) (H : Hp) (C : Addr) (cl : List (Str × Addr)) (fp : List Addr), SE (X.blk s H scope (compEnvC scope cl C X.env) fp) T W0 elt f) (hsl : ∀ i ∈ t.slots, i ∈ own.map (·.2) := by decide) (hs : ∀ x, foldedSetIterable iter X.env x = pure x := by intro _; rfl) :
    SE X T W (.ListComp elt [⟨tg, iter, ifs, 0⟩] scope pos) (mLc fi t c f (own.map (·.2))) :=
  PE.imp (pe_lc (tt := tOfT X.K X.mg T W0 c) (te := tOf X.K X.mg T W0 f) hc hN hi ok hg ht he hs) fun σ H Q q => lc_of hsl q
/-- name = [..] -/
theorem ss_setLc (i : Nat) {y : Str} {py : Pos} {elt iter : Expr} {ifs : List Expr} {scope : Scope} (own : List (Str × Nat)) {spos : Pos} {fi : En → M Nxt} {t : Tg} {c : En → M Bool} {f : En → M Vl} (hc : X.calm = true) (hN : X.N.Nodup) (hsw : swapsWith (.ListComp elt [⟨tg, iter, ifs, 0⟩] scope pos) (some (.Name y py)) spos.line X.env = pure true) (hi : SI X T W tg iter fi) (ok : BlkOk X.N X.env.scope scope own)
    (hg : ∀ (s : Shared) (H : Hp) (C : Addr) (cl : List (Str × Addr)) (fp : List Addr), PG (X.blk s H scope (compEnvC scope cl C X.env) fp) tg (t.rd X.K)) (ht : ∀ (s : Shared) (H : Hp) (C : Addr) (cl : List (Str × Addr)) (fp : List Addr), STs (X.blk s H scope (compEnvC scope cl C X.env) fp) T W0 ifs c)
    (he : ∀ (s : Shared) (H : Hp) (C : Addr) (cl : List (Str × Addr)) (fp : List Addr), SE (X.blk s H scope (compEnvC scope cl C X.env) fp) T W0 elt f) (hsl : ∀ i ∈ t.slots, i ∈ own.map (·.2) := by decide)
    (hy : X.N[i]? = some y := by rfl) (hyl : X.env.scope.names.lookup y = some .local := by rfl) (hs : ∀ x, foldedSetIterable iter X.env x = pure x := by intro _; rfl) :
    SS X T W (.Assign [.Name y py] (.ListComp elt [⟨tg, iter, ifs, 0⟩] scope pos) spos) (sAsg (mLc fi t c f (own.map (·.2))) (gNm i)) := by
  refine PS.imp (ps_setLc (tt := tOfT X.K X.mg T W0 c) (te := tOf X.K X.mg T W0 f) hc hN hy hyl hsw hi ok hg ht he hs) fun D σ H q => ?_
  obtain ⟨ρ, μ, S, sr, er, q⟩ := q
  refine lc_of (W := W) hsl ⟨ρ, μ, S, sr, er, ?_⟩
  unfold sAsg at q
  cases e : mLc fi t c f (own.map (·.2)) ρ S with
  | none => rw [e] at q; exact q
  | some p =>
    obtain ⟨r, S'⟩ := p
    rw [e] at q
    cases r with
    | ok v => exact fun H' μ' x e' sr' rx => q H' μ' _ e' sr' ((er.ext e').set i rx)
    | exc c g v => exact exc_of er q
theorem tg_nm (i : Nat) {X : Cx} {x : Str} {pos : Pos} (hN : X.N.Nodup) (hi : X.N[i]? = some x := by rfl) (hx : Loc X.env.scope x := by first | exact Or.inl rfl | exact Or.inr rfl) (hf : X.fn x = true ∨ X.env.scope.names.lookup x = some .local := by first | exact .inl rfl | exact .inr rfl | assumption) : PG X (.Name x pos) (Tg.rd X.K (.nm i)) := pg_name hN hi hx hf
abbrev PGn (X : Cx) (es : List Expr) (is : List Nat) : Prop := PGs X es (gNms is)
theorem pgn_nil {X : Cx} : PGn X [] [] := pgs_nil
theorem pgn_cons (i : Nat) {X : Cx} {e : Expr} {es : List Expr} {is : List Nat} (h : PG X e (gName i)) (hr : PGn X es is) (hs : (assignEach (e :: es) X.env).map (·.2) = assign e X.env :: (assignEach es X.env).map (·.2) := by rfl) : PGn X (e :: es) (i :: is) := pgs_cons h hr hs
theorem tg_tp {X : Cx} {es : List Expr} {k : Nat} {is : List Nat} {pos : Pos} (hc : X.calm = true) (h : PGn X es is) (hn : (assignEach es X.env).length = is.length := by rfl) (hst : (assignEach es X.env).findIdx? (·.1) = none := by rfl) : PG X (.Tuple es k pos) (Tg.rd X.K (.tp is)) := pg_tup hc h hn hst
end
end Q

set_option linter.all false
set_option maxRecDepth 100000
set_option maxHeartbeats 400000
namespace Q
open PySem PySem.Spec PyProof.Rows L2

/-! ### dicts with keys that are ints or texts -/
def keyEq : Vl → Vl → Bool
  | .int i, .int j => i == j
  | .str a, .str b => a == b
  | _, _ => false
def dGet (kvs : List (Vl × Vl)) (k : Vl) : Option Vl := (kvs.find? fun p => keyEq p.1 k).map (·.2)
def dPut (kvs : List (Vl × Vl)) (k v : Vl) : List (Vl × Vl) :=
  if (kvs.any fun p => keyEq p.1 k) = true then kvs.map fun p => if keyEq p.1 k then (p.1, v) else p else kvs ++ [(k, v)]
def getD (S : Sto) (n : Nat) : Option (List (Vl × Vl)) := match S.at_ n with
  | .dic _ kvs => some kvs
  | _ => none
section
variable {K : PySem.W.Frag} {mg : Str → Option Value} {T : Tb} {H : Hp} {μ : Nat → Addr} {S : Sto} {N : Nat}
theorem keyOf_rel {k : Vl} {κ : Key} {x : V} (h : keyOf k = some κ) (r : Rp K mg H μ N k x) : x = kV κ := by
  cases k with
  | int i => cases h; cases r; rfl
  | str i => cases h; cases r; rfl
  | _ => cases h
theorem keyEq_iff {a b : Vl} {κ κ' : Key} (h : keyOf a = some κ) (h' : keyOf b = some κ') : keyEq a b = decide (κ = κ') := by
  cases a with
  | int i =>
    cases b with
    | int j => cases h; cases h'; rw [Bool.eq_iff_iff]; simp [keyEq]
    | str j => cases h; cases h'; simp [keyEq]
    | _ => cases h'
  | str i =>
    cases b with
    | int j => cases h; cases h'; simp [keyEq]
    | str j => cases h; cases h'; rw [Bool.eq_iff_iff]; simp [keyEq]
    | _ => cases h'
  | _ => cases h
theorem RpK.get {k : Vl} {κ : Key} (hk : keyOf k = some κ) : ∀ {kvs : List (Vl × Vl)} {vs : List (Key × V)}, RpK K mg H μ N kvs vs → (∀ x, dGet kvs k = some x → ∃ v, valV vs κ = some v ∧ Rp K mg H μ N x v) ∧ (dGet kvs k = none → valV vs κ = none)
  | _, _, .nil => ⟨fun _ e => (by cases e), fun _ => rfl⟩
  | _, _, .cons (k := k0) (x := x0) (κ := κ0) (v := v0) (xs := xs) (vs := ws) h0 r rs => by
    have ih := RpK.get hk rs
    by_cases e : κ0 = κ
    · have q : keyEq k0 k = true := by rw [keyEq_iff h0 hk]; exact decide_eq_true e
      have q1 : dGet ((k0, x0) :: xs) k = some x0 := by unfold dGet; rw [List.find?_cons, q]; rfl
      refine ⟨fun x hx => ?_, fun hx => by rw [q1] at hx; cases hx⟩
      rw [q1] at hx; cases hx
      exact ⟨v0, valV_pos e, r⟩
    · have q : keyEq k0 k = false := by rw [keyEq_iff h0 hk]; exact decide_eq_false e
      have q1 : dGet ((k0, x0) :: xs) k = dGet xs k := by unfold dGet; rw [List.find?_cons, q]
      rw [q1, valV_neg (p := (κ0, v0)) e]
      exact ih
theorem RpK.length {kvs : List (Vl × Vl)} {vs : List (Key × V)} (h : RpK K mg H μ N kvs vs) : kvs.length = vs.length := by
  induction h with
  | nil => rfl
  | cons _ _ _ ih => simp [ih]
theorem RpK.any {k : Vl} {κ : Key} (hk : keyOf k = some κ) {kvs : List (Vl × Vl)} {vs : List (Key × V)} (h : RpK K mg H μ N kvs vs) : (kvs.any fun p => keyEq p.1 k) = vs.any fun p => decide (p.1 = κ) := by
  induction h with
  | nil => rfl
  | cons h0 _ _ ih => rw [List.any_cons, List.any_cons, ih, keyEq_iff h0 hk]
theorem RpK.map {k : Vl} {κ : Key} (hk : keyOf k = some κ) {x : Vl} {v : V} (rv : Rp K mg H μ N x v) {kvs : List (Vl × Vl)} {vs : List (Key × V)} (h : RpK K mg H μ N kvs vs) :
    RpK K mg H μ N (kvs.map fun p => if keyEq p.1 k then (p.1, x) else p) (vs.map fun p => if p.1 = κ then (p.1, v) else p) := by
  induction h with
  | nil => exact .nil
  | @cons k0 x0 κ0 v0 xs ws h0 r _ ih =>
    rw [List.map_cons, List.map_cons, keyEq_iff h0 hk]
    by_cases e : κ0 = κ
    · simp only [e, decide_true, if_true]; exact .cons (by rw [← e]; exact h0) rv ih
    · simp only [e, decide_false, if_false]; exact .cons h0 r ih
theorem RpK.append {kvs kvs' : List (Vl × Vl)} {vs vs' : List (Key × V)} (h : RpK K mg H μ N kvs vs) (h' : RpK K mg H μ N kvs' vs') : RpK K mg H μ N (kvs ++ kvs') (vs ++ vs') := by
  induction h with
  | nil => exact h'
  | cons h0 r _ ih => exact .cons h0 r ih
theorem RpK.put {k : Vl} {κ : Key} (hk : keyOf k = some κ) {x : Vl} {v : V} (rv : Rp K mg H μ N x v) {kvs : List (Vl × Vl)} {vs : List (Key × V)} (h : RpK K mg H μ N kvs vs) : RpK K mg H μ N (dPut kvs k x) (putK vs κ v) := by
  unfold dPut putK
  rw [h.any hk]
  by_cases e : (vs.any fun p => decide (p.1 = κ)) = true
  · rw [if_pos e, if_pos e]; exact h.map hk rv
  · rw [if_neg e, if_neg e]; exact h.append (.cons hk rv .nil)
theorem dic_at {n : Nat} {lk : Bool} {kvs : List (Vl × Vl)} (sr : SRel K mg T H μ S) (hn : n < S.n) (e : S.at_ n = .dic lk kvs) : ∃ vs, Rd H (μ n) (.dK vs) ∧ RpK K mg H μ S.n kvs vs := by
  have q := sr.at_ n hn
  rw [e] at q
  cases lk with
  | false => obtain ⟨vs, h1, h2⟩ := q; exact ⟨vs, .inl h1, h2⟩
  | true => obtain ⟨o, vs, h1, h2⟩ := q; exact ⟨vs, .inr ⟨o, h1⟩, h2⟩
theorem getD_at {n : Nat} {kvs : List (Vl × Vl)} (sr : SRel K mg T H μ S) (hn : n < S.n) (e : getD S n = some kvs) : ∃ vs, Rd H (μ n) (.dK vs) ∧ RpK K mg H μ S.n kvs vs := by
  unfold getD at e
  cases q : S.at_ n with
  | dic lk ks => rw [q] at e; cases e; exact dic_at sr hn q
  | _ => rw [q] at e; cases e
theorem DGet.rd {a : Addr} {vs : List (Key × V)} {κ : Key} (e : Rd H a (.dK vs)) : DGet H a (kV κ) (valV vs κ) := .inl ⟨vs, κ, e, rfl, rfl⟩
end
/-- o[i] -/
def bSub' : Vl → Vl → MO Vl := fun a b S => match a with
  | .ref n => (match getD S n with
    | some kvs => (match keyOf b with
      | some _ => (match dGet kvs b with | some v => some (v, S) | none => none)
      | none => none)
    | none => bIdx a b S)
  | _ => bIdx a b S
section
variable {X : Cx} {T : Tb} {W : WX} {pos : Pos}
theorem ixr_idx : IxR X (rOf X.K X.mg T bIdx) := by
  intro value slice pins s σ H x y v u Q I rx ry h hs
  obtain ⟨μ, S, a, b, sr, ra, rb, h⟩ := h
  cases b with
  | int i =>
    cases rb
    cases a with
    | tup xs =>
      obtain ⟨p, vs, rfl, h1, r1⟩ := ra.tup_at
      have h : PstO X.K X.mg T (rl X.K X.mg) H μ S.n Q (match atI xs i with | some v => some (v, S) | none => none) := h
      cases q : atI xs i with
      | none => rw [q] at h; exact h.elim
      | some w =>
        rw [q] at h
        obtain ⟨z, h2, r2⟩ := atI_rel r1 q
        exact ix_tup value slice pins s σ H _ _ v u Q I rx ry ⟨p, vs, i, z, rfl, rfl, h1, h2, h.here sr r2⟩ hs
    | ref n =>
      have h : PstO X.K X.mg T (rl X.K X.mg) H μ S.n Q (match getR S n with
        | some xs => match atI xs i with
          | some v => some (v, S)
          | none => none
        | none => none) := h
      cases g : getR S n with
      | none => rw [g] at h; exact h.elim
      | some xs =>
        rw [g] at h
        simp only at h
        obtain ⟨vs, rfl, h1, r1⟩ := ra.read_at sr g
        cases q : atI xs i with
        | none => rw [q] at h; exact h.elim
        | some w =>
          rw [q] at h
          obtain ⟨z, h2, r2⟩ := atI_rel r1 q
          exact ix_list value slice pins s σ H _ _ v u Q I rx ry ⟨_, vs, i, z, rfl, rfl, h1, h2, h.here sr r2⟩ hs
    | str z =>
      cases ra
      have h : PstO X.K X.mg T (rl X.K X.mg) H μ S.n Q (if z.length ≤ sizeLine then match atI z.cps.toList i with
          | some c => some (.str ⟨#[c]⟩, S)
          | none => none
        else none) := h
      by_cases hz : z.length ≤ sizeLine
      · rw [if_pos hz] at h
        cases q : atI z.cps.toList i with
        | none => rw [q] at h; exact h.elim
        | some c => rw [q] at h; exact ix_str value slice pins s σ H _ _ v u Q I rx ry ⟨z, i, c, rfl, rfl, hz, q, h.here sr (.str _)⟩ hs
      · rw [if_neg hz] at h; exact h.elim
    | _ => exact h.elim
  | _ => cases a <;> exact h.elim
theorem ixr_sub (hu : X.A.units + 1 < cLine) : IxR X (rOf X.K X.mg T bSub') := by
  intro value slice pins s σ H x y v u Q I rx ry h hs
  obtain ⟨μ, S, a, b, sr, ra, rb, h⟩ := h
  have other : PstO X.K X.mg T (rl X.K X.mg) H μ S.n Q (bIdx a b S) → wpAny (model X.prog X.w) X.A (subscriptTail value slice v u) (EP X pins σ Q) X.xe s := fun h' =>
    ixr_idx value slice pins s σ H x y v u Q I rx ry ⟨μ, S, a, b, sr, ra, rb, h'⟩ hs
  cases a with
  | ref n =>
    have h : PstO X.K X.mg T (rl X.K X.mg) H μ S.n Q (match getD S n with
      | some kvs => (match keyOf b with
        | some _ => (match dGet kvs b with | some v => some (v, S) | none => none)
        | none => none)
      | none => bIdx (.ref n) b S) := h
    cases g : getD S n with
    | none => rw [g] at h; exact other h
    | some kvs =>
      rw [g] at h
      simp only at h
      cases hk : keyOf b with
      | none => rw [hk] at h; exact h.elim
      | some κ =>
        rw [hk] at h
        simp only at h
        cases q : dGet kvs b with
        | none => rw [q] at h; exact h.elim
        | some w =>
          rw [q] at h
          cases ra with
          | ref n hn =>
          obtain ⟨vs, h1, h2⟩ := getD_at sr hn g
          obtain ⟨z, h3, r3⟩ := (h2.get hk).1 w q
          have e := keyOf_rel hk rb
          subst e
          cases rx
          have dg : DGet H (μ n) (kV κ) (some z) := by rw [← h3]; exact DGet.rd h1
          exact tail_any (dict_typeIs I dg) PySem.F.slot_dict_getitem.lookup (d_getItem hu I dg ry fun w' s' I' rw' => ⟨z, H, I', rw', h.here sr r3⟩) hs
  | _ => exact other h
theorem se_sub {a b : Expr} {fa fb : En → M Vl} (hu : X.A.units + 1 < cLine) (ha : SE X T W a fa) (hb : SE X T W b fb) (hs : PlainIx b := by exact fun _ _ => rfl) : SE X T W (.Subscript a b pos) (mBin bSub' fa fb) :=
  PE.imp (pe_ix (ixr_sub hu) ha hb hs) fun σ H Q h => tOp_of h
end

/-! ### o[i] = v -/
def bSet : Vl → Vl → Vl → Sto → Option Sto := fun o i v S => match o with
  | .ref n => (match S.at_ n with
    | .lst xs => (match i with
      | .int k => (match ixN xs.length k with | some j => some (S.set n (.lst (xs.set j v))) | none => none)
      | _ => none)
    | .dic false kvs => (match keyOf i with
      | some _ => if kvs.length < sizeLine then some (S.set n (.dic false (dPut kvs i v))) else none
      | none => none)
    | _ => none)
  | _ => none
def rSof (K : PySem.W.Frag) (mg : Str → Option Value) (T : Tb) : TSet := fun o i v H Q => ∃ (μ : Nat → Addr) (S S' : Sto) (a b c : Vl), SRel K mg T H μ S ∧ Rp K mg H μ S.n a o ∧ Rp K mg H μ S.n b i ∧ Rp K mg H μ S.n c v ∧ bSet a b c S = some S' ∧ ∀ H', Ext H μ S.n H' μ S'.n → SRel K mg T H' μ S' → Q H'
def gSb (fo fi : En → M Vl) : Vl → En → MO En := fun v ρ S => match fo ρ S with
  | some (.ok o, S1) => (match fi ρ S1 with
    | some (.ok i, S2) => (match bSet o i v S2 with | some S3 => some (ρ, S3) | none => none)
    | _ => none)
  | _ => none
section
variable {X : Cx} {T : Tb} {W : WX} {pos : Pos}
theorem set_both (hu : X.A.units + 1 < cLine) : PSet X (rSof X.K X.mg T) := by
  intro pins s σ H o i v ov iv u Q I ro ri rv h
  obtain ⟨μ, S, S', a, b, c, sr, ra, rb, rc, e, q⟩ := h
  cases a with
  | ref n =>
    cases ra with
    | ref n hn =>
    unfold bSet at e
    simp only at e
    cases e1 : S.at_ n with
    | lst xs =>
      rw [e1] at e
      simp only at e
      cases b with
      | int k =>
        cases rb
        simp only at e
        cases e2 : ixN xs.length k with
        | none => rw [e2] at e; cases e
        | some j =>
          rw [e2] at e
          cases e
          have ob := sr.at_ n hn
          rw [e1] at ob
          obtain ⟨vs, h1, h2⟩ := ob
          refine set_list pins s σ H _ _ v ov iv u Q I ro ri rv ⟨μ n, vs, k, j, rfl, rfl, h1, by rw [← h2.length]; exact e2, ?_⟩
          have wr := sr.write (k := n) (o := .lst (vs.set j v)) (ob := .lst (xs.set j c)) hn (by rw [e1]; rfl) rfl (by rw [h1]; intro _ z; cases z) (by rw [h1]; intro _ _ z; cases z) (by rw [h1]; intro _ z; cases z) (by rw [h1]; intro _ z; cases z) (fun ew => ⟨_, upd_same, (h2.ext ew).set j (rc.ext ew)⟩)
          exact q _ wr.2 wr.1
      | _ => cases e
    | dic lk kvs =>
      rw [e1] at e
      cases lk with
      | true => cases e
      | false =>
        simp only at e
        cases hk : keyOf b with
        | none => rw [hk] at e; cases e
        | some κ =>
          rw [hk] at e
          simp only at e
          by_cases hz : kvs.length < sizeLine
          · rw [if_pos hz] at e
            cases e
            have ob := sr.at_ n hn
            rw [e1] at ob
            obtain ⟨vs, h1, h2⟩ := ob
            have ek := keyOf_rel hk rb
            subst ek
            have wr := sr.write (k := n) (o := .dK (putK vs κ v)) (ob := .dic false (dPut kvs b c)) hn (by rw [e1]; rfl) rfl (by rw [h1]; intro _ z; cases z) (by rw [h1]; intro _ _ z; cases z) (by rw [h1]; intro _ z; cases z) (by rw [h1]; intro _ z; cases z) (fun ew => ⟨_, upd_same, (h2.ext ew).put hk (rc.ext ew)⟩)
            exact set_dict hu pins s σ H _ _ v ov iv u Q I ro ri rv ⟨μ n, _, rfl, DPut.k h1 (by rw [← h2.length]; exact hz), q _ wr.2 wr.1⟩
          · rw [if_neg hz] at e; cases e
    | _ => rw [e1] at e; cases e
  | _ => cases e
/-- o[i] as a target: neither o nor i raises -/
theorem sg_sub {o i : Expr} {fo fi : En → M Vl} (hu : X.A.units + 1 < cLine) (ho : SE X T W0 o fo) (hi : SE X T W0 i fi)
    (ha : ∀ v, assign (.Subscript o i pos) X.env v = (do
      let ov ← holding [v] (eval o X.env)
      let iv ← holding [v, ov] (eval i X.env)
      standAt pos
      holding [v, ov, iv] (setItem ov iv v)
      release [v, ov, iv] []) := by intro _; rfl) : SG X T (.Subscript o i pos) (gSb fo fi) := by
  refine PG.imp (pg_sub ho hi (set_both (T := T) hu) ha) fun v σ H Q q => ?_
  obtain ⟨ρ, μ, S, w, sr, er, rw_, q⟩ := q
  refine ⟨ρ, μ, S, sr, er, ?_⟩
  unfold gSb at q
  cases e1 : fo ρ S with
  | none => rw [e1] at q; exact q.elim
  | some p1 =>
    obtain ⟨r1, S1⟩ := p1
    rw [e1] at q
    cases r1 with
    | exc c f v => exact q.elim
    | ok o =>
      intro H1 μ1 x1 ex1 sr1 r1
      refine ⟨ρ, μ1, S1, sr1, er.ext ex1, ?_⟩
      simp only at q
      cases e2 : fi ρ S1 with
      | none => rw [e2] at q; exact q.elim
      | some p2 =>
        obtain ⟨r2, S2⟩ := p2
        rw [e2] at q
        cases r2 with
        | exc c f v => exact q.elim
        | ok i =>
          intro H2 μ2 x2 ex2 sr2 r2
          simp only at q
          cases e3 : bSet o i w S2 with
          | none => rw [e3] at q; exact q.elim
          | some S3 =>
            rw [e3] at q
            exact ⟨μ2, S2, S3, o, i, w, sr2, r1.ext ex2, r2, rw_.ext (ex1.trans ex2), e3, fun H' ex3 sr3 => q H' μ2 σ ((ex1.trans ex2).trans ex3) sr3 (er.ext ((ex1.trans ex2).trans ex3))⟩
end

/-! ### k in d, x in xs, x in text -/
/-- the text x within the text y -/
def inS (x y : Str) : Bool := !(Builtin.Str.occurrences y x 0 y.length 1).isEmpty
def bIn (neg : Bool) : Vl → Vl → MO Vl := fun a b S => match b with
  | .ref n => (match getD S n with
    | some kvs => (match keyOf a with
      | some _ => some (.bl (if neg then !(dGet kvs a).isSome else (dGet kvs a).isSome), S)
      | none => none)
    | none => (match toD S a, toD S b with
      | some d, some (.list ds) => if (SeqAt.shaped d && SeqAt.shaped (.list ds)) = true then some (.bl (if neg then !(ds.any fun z => PyData.eqv z d) else ds.any fun z => PyData.eqv z d), S) else none
      | _, _ => none))
  | .str y => (match a with
    | .str x => some (.bl (if neg then !(inS x y) else inS x y), S)
    | _ => none)
  | _ => none
section
variable {X : Cx} {T : Tb} {W : WX} {pos : Pos}
theorem dGet_opt {K : PySem.W.Frag} {mg : Str → Option Value} {H : Hp} {μ : Nat → Addr} {N : Nat} {k : Vl} {κ : Key} {kvs : List (Vl × Vl)} {vs : List (Key × V)} (hk : keyOf k = some κ) (h : RpK K mg H μ N kvs vs) : (valV vs κ).isSome = (dGet kvs k).isSome := by
  cases q : dGet kvs k with
  | none => rw [(h.get hk).2 q]; rfl
  | some w => obtain ⟨z, h3, _⟩ := (h.get hk).1 w q; rw [h3]; rfl
theorem os_inW {op : CmpOp} {neg : Bool} (hd : ∀ {pins : List (Addr × Obj)} {s : Shared} {σ : L2.St} {H : Hp} {a : Addr} {y : V} {u : Value} {o : Option V} {Q : Value → Shared → Prop}, L2.Inv X pins σ H s → DGet H a y o → RelV y u → (∀ s', L2.Inv X pins σ H s' → Q (.bool (if neg then !o.isSome else o.isSome)) s') → wpAny (model X.prog X.w) X.A (compareOp op u (.ref a)) Q X.xe s)
    (hl : OpR X (compareOp op) fun x y H Q => ∃ d ds, Dp X.K H x d ∧ Dp X.K H y (.list ds) ∧ SeqAt.shaped d = true ∧ SeqAt.shaped (.list ds) = true ∧ Q (.bl (if neg then !(ds.any fun z => PyData.eqv z d) else ds.any fun z => PyData.eqv z d)) H)
    (ht : OpR X (compareOp op) fun x y H Q => ∃ i j, x = .str i ∧ y = .str j ∧ Q (.bl (if neg then !(inS i j) else inS i j)) H) : OpS X T (compareOp op) (bIn neg) := by
  intro pins s σ H x y v u Q I rx ry h
  obtain ⟨μ, S, a, b, sr, ra, rb, h⟩ := h
  cases b with
  | ref n =>
    have rb0 := rb
    cases rb with
    | ref n hn =>
    unfold bIn at h
    simp only at h
    cases g : getD S n with
    | some kvs =>
      rw [g] at h
      simp only at h
      cases hk : keyOf a with
      | none => rw [hk] at h; exact h.elim
      | some κ =>
        rw [hk] at h
        obtain ⟨vs, h1, h2⟩ := getD_at sr hn g
        have e := keyOf_rel hk ra
        subst e
        cases ry
        refine hd I (DGet.rd h1) rx fun s' I' => ⟨.bl (if neg then !(dGet kvs a).isSome else (dGet kvs a).isSome), H, I', ?_, PstO.here h sr (.bl _)⟩
        rw [dGet_opt hk h2]
        rfl
    | none =>
      rw [g] at h
      simp only at h
      cases q1 : toD S a with
      | none => rw [q1] at h; exact h.elim
      | some d =>
        cases q2 : toD S (.ref n) with
        | none => rw [q1, q2] at h; exact h.elim
        | some e =>
          cases e with
          | list ds =>
            rw [q1, q2] at h
            simp only at h
            by_cases hz : (SeqAt.shaped d && SeqAt.shaped (.list ds)) = true
            · rw [if_pos hz] at h
              rw [Bool.and_eq_true] at hz
              exact hl pins s σ H _ _ v u Q I rx ry ⟨d, ds, Dp_toD sr ra q1, Dp_toD sr rb0 q2, hz.1, hz.2, PstO.here h sr (.bl _)⟩
            · rw [if_neg hz] at h; exact h.elim
          | _ => rw [q1, q2] at h; exact h.elim
  | str y =>
    cases rb
    cases a with
    | str x => cases ra; exact ht pins s σ H _ _ v u Q I rx ry ⟨x, y, rfl, rfl, PstO.here h sr (.bl _)⟩
    | _ => exact h.elim
  | _ => exact h.elim
theorem os_in (hu : X.A.units + 65 < cLine) : OpS X T (compareOp .In) (bIn false) :=
  os_inW (fun I g r h => d_in (by omega) I g r h) (fun pins s σ H x y v u Q I rx ry h => op_inD hu pins s σ H x y v u Q I rx ry h) (fun pins s σ H x y v u Q I rx ry h => op_in_str pins s σ H x y v u Q I rx ry h)
theorem os_notin (hu : X.A.units + 65 < cLine) : OpS X T (compareOp .NotIn) (bIn true) :=
  os_inW (fun I g r h => d_notIn (by omega) I g r h) (fun pins s σ H x y v u Q I rx ry h => op_notInD hu pins s σ H x y v u Q I rx ry h) (fun pins s σ H x y v u Q I rx ry h => op_notin_str pins s σ H x y v u Q I rx ry h)
end
end Q

set_option linter.all false
set_option maxRecDepth 100000
set_option maxHeartbeats 400000
namespace Q
open PySem PySem.Spec PyProof.Rows L2

/-! ### methods of built-in types -/
def tyB (T : String) (S : Sto) : Vl → Bool
  | .str _ => T == "str"
  | .ref n => (match S.at_ n with
    | .lst _ => T == "list"
    | .ro _ => T == "list"
    | .dic false _ => T == "dict"
    | _ => false)
  | _ => false
def mMet (Ty : String) (m : Vl → List Vl → MO Vl) (f : En → M Vl) (g : En → M (List Vl)) : En → M Vl := fun ρ => bnd (f ρ) fun o S => if tyB Ty S o = true then bnd (g ρ) (fun as => lift (m o as)) S else none
def rMof (K : PySem.W.Frag) (mg : Str → Option Value) (T : Tb) (m : Vl → List Vl → MO Vl) : V → List V → Hp → VK → Prop := fun x xs H Q => ∃ (μ : Nat → Addr) (S : Sto) (o : Vl) (as : List Vl), SRel K mg T H μ S ∧ Rp K mg H μ S.n o x ∧ RpAll K mg H μ S.n as xs ∧ PstO K mg T (rl K mg) H μ S.n Q (m o as S)
abbrev MtS (X : Cx) (T : Tb) (id : String) (m : Vl → List Vl → MO Vl) : Prop := MtR X id (rMof X.K X.mg T m)
section
variable {X : Cx} {T : Tb} {W : WX} {o e : Expr} {es : List Expr} {name : Str} {apos cpos : Pos} {Ty id : String} {m : Vl → List Vl → MO Vl} {f : En → M Vl} {g : En → M (List Vl)}
theorem tyB_is {K : PySem.W.Frag} {mg : Str → Option Value} {H : Hp} {μ : Nat → Addr} {S : Sto} {v : Vl} {x : V} (sr : SRel K mg T H μ S) (r : Rp K mg H μ S.n v x) (h : tyB Ty S v = true) : tyV K Ty x H := by
  cases v with
  | str z => cases r; exact beq_iff_eq.mp h
  | ref n =>
    cases r with
    | ref n hn =>
    have ob := sr.at_ n hn
    unfold tyB at h
    cases q : S.at_ n with
    | lst xs =>
      rw [q] at ob; simp only [q] at h
      obtain ⟨vs, h1, _⟩ := ob
      exact .inl ⟨beq_iff_eq.mp h, vs, .inl (.inl h1)⟩
    | ro xs =>
      rw [q] at ob; simp only [q] at h
      obtain ⟨vs, h1, _⟩ := ob
      refine .inl ⟨beq_iff_eq.mp h, vs, ?_⟩
      rcases h1 with ⟨o, q⟩ | q
      · exact .inl (.inr ⟨o, q⟩)
      · exact .inr q
    | dic lk kvs =>
      rw [q] at ob
      cases lk with
      | false =>
        simp only [q] at h
        obtain ⟨vs, h1, _⟩ := ob
        exact .inr (.inr (.inl ⟨beq_iff_eq.mp h, .inl ⟨vs, h1⟩⟩))
      | true => simp only [q] at h; cases h
    | _ => simp only [q] at h; cases h
  | _ => cases h
theorem tBM_of {σ : L2.St} {H : Hp} {Q : VK} (h : tOf X.K X.mg T W (mMet Ty m f g) σ H Q) : tBM X.K Ty (rMof X.K X.mg T m) (tOf X.K X.mg T W f) (tOfA X.K X.mg T W g) σ H Q := by
  obtain ⟨ρ, μ, S, sr, er, h⟩ := h
  refine ⟨ρ, μ, S, sr, er, Pst.bnd_ h fun v S1 H1 μ1 x e1 sr1 rx h1 => ?_⟩
  by_cases hz : tyB Ty S1 v = true
  · rw [if_pos hz] at h1
    refine ⟨tyB_is sr1 rx hz, ρ, μ1, S1, sr1, er.ext e1, Pst.bnd_ h1 fun as S2 H2 μ2 y e2 sr2 ry h2 => ?_⟩
    exact ⟨μ2, S2, v, as, sr2, Rp.ext e2 rx, ry, h2.lift_⟩
  · rw [if_neg hz] at h1; exact h1.elim
theorem tBM0_of {σ : L2.St} {H : Hp} {Q : VK} (h : tOf X.K X.mg T W (mMet Ty m f mNil) σ H Q) : tBM0 X.K Ty (rMof X.K X.mg T m) (tOf X.K X.mg T W f) σ H Q := by
  obtain ⟨ρ, μ, S, sr, er, h⟩ := h
  refine ⟨ρ, μ, S, sr, er, Pst.bnd_ h fun v S1 H1 μ1 x e1 sr1 rx h1 => ?_⟩
  by_cases hz : tyB Ty S1 v = true
  · rw [if_pos hz] at h1
    exact ⟨tyB_is sr1 rx hz, μ1, S1, v, [], sr1, rx, .nil, Pst.lift_ h1⟩
  · rw [if_neg hz] at h1; exact h1.elim
theorem se_met (pa : PlainAttrs Ty) (slot : Slot Ty name id) (hty : typeOf (.builtin id) = pure (.type "method_descriptor")) (hm : MtS X T id m) (ho : SE X T W o f) (ha : SA X T W (e :: es) g)
    (hbase : attributeBase o name X.env (eval o X.env) = eval o X.env := by rfl)
    (hfew : ((backTo cpos (starEach (e :: es) X.env)).all (fun x => !x.1) && (backToKw cpos (keywordEach [] X.env)).all (fun x => x.1.isSome)
      && decide ((e :: es).length + ([] : List Keyword).length + (if ([] : List Keyword).isEmpty then 0 else 1) < 30)) = true := by rfl)
    (hline : (apos.endLine == cpos.line) = true := by rfl) (hs : starEach (e :: es) X.env = (false, eval e X.env) :: starEach es X.env := by rfl) (hplain : (backTo cpos (starEach es X.env)).any (·.1) = false := by rfl) :
    SE X T W (.Call (.Attribute o name apos) (e :: es) [] cpos) (mMet Ty m f g) := PE.imp (pe_bm pa slot hty hm ho ha hbase hfew hline hs hplain) fun σ H Q h => tBM_of h
theorem se_met0 (pa : PlainAttrs Ty) (slot : Slot Ty name id) (hty : typeOf (.builtin id) = pure (.type "method_descriptor")) (hm : MtS X T id m) (ho : SE X T W o f)
    (hbase : attributeBase o name X.env (eval o X.env) = eval o X.env := by rfl) (hline : (apos.endLine == cpos.line) = true := by rfl) :
    SE X T W (.Call (.Attribute o name apos) [] [] cpos) (mMet Ty m f mNil) := PE.imp (pe_bm0 pa slot hty hm ho hbase hline) fun σ H Q h => tBM0_of h
end

/-! ### methods of lists -/
def mtAppend : Vl → List Vl → MO Vl := fun o as S => match o, as with
  | .ref n, [v] => (match S.at_ n with
    | .lst xs => if xs.length < sizeLine then some (.non, S.set n (.lst (xs ++ [v]))) else none
    | _ => none)
  | _, _ => none
def mtPop : Vl → List Vl → MO Vl := fun o as S => match o, as with
  | .ref n, [] => (match S.at_ n with
    | .lst xs => (match xs[xs.length - 1]? with | some v => some (v, S.set n (.lst xs.dropLast)) | none => none)
    | _ => none)
  | _, _ => none
def mtPopAt : Vl → List Vl → MO Vl := fun o as S => match o, as with
  | .ref n, [.int i] => (match S.at_ n with
    | .lst xs => if -(2 ^ 63) ≤ i ∧ i < 2 ^ 63 then (match seqIndex? i xs.length with
      | some k => (match xs[k]? with | some v => some (v, S.set n (.lst (xs.eraseIdx k))) | none => none)
      | none => none) else none
    | _ => none)
  | _, _ => none
def mtExtend : Vl → List Vl → MO Vl := fun o as S => match o, as with
  | .ref n, [.ref m] => (match S.at_ n, S.at_ m with
    | .lst xs, .lst ys => if xs.length + ys.length ≤ sizeLine then some (.non, S.set n (.lst (xs ++ ys))) else none
    | _, _ => none)
  | _, _ => none
section
variable {K : PySem.W.Frag} {mg : Str → Option Value} {T : Tb} {H : Hp} {μ : Nat → Addr} {S : Sto} {N : Nat}
/-- a list of the store written -/
theorem SRel.wlst {n : Nat} {xs ys : List Vl} {vs ws : List V} (sr : SRel K mg T H μ S) (hn : n < S.n) (e : S.at_ n = .lst xs) (h : H (μ n) = some (.lst vs)) (r : RpAll K mg H μ S.n ys ws) :
    SRel K mg T (upd H (μ n) (.lst ws)) μ (S.set n (.lst ys)) ∧ Ext H μ S.n (upd H (μ n) (.lst ws)) μ S.n :=
  sr.write (k := n) (o := .lst ws) (ob := .lst ys) hn (by rw [e]; rfl) rfl (by rw [h]; intro _ z; cases z) (by rw [h]; intro _ _ z; cases z) (by rw [h]; intro _ z; cases z) (by rw [h]; intro _ z; cases z) (fun ew => ⟨_, upd_same, r.ext ew⟩)
theorem RpAll.eraseIdx : ∀ {xs : List Vl} {vs : List V} (i : Nat), RpAll K mg H μ N xs vs → RpAll K mg H μ N (xs.eraseIdx i) (vs.eraseIdx i)
  | _, _, _, .nil => .nil
  | _, _, 0, .cons _ t => t
  | _, _, i + 1, .cons h t => .cons h (RpAll.eraseIdx i t)
end
section
variable {X : Cx} {T : Tb}
theorem ms_append : MtS X T "list.append" mtAppend := by
  intro pins s σ H x xs v us Q I rx rs h
  obtain ⟨μ, S, o, as, sr, ro, ra, h⟩ := h
  cases o with
  | ref n =>
    cases ra with
    | nil => exact h.elim
    | cons r1 r2 =>
      cases r2 with
      | cons _ _ => exact h.elim
      | nil =>
        rename_i w y
        unfold mtAppend at h
        simp only at h
        cases q : S.at_ n with
        | lst xs =>
          rw [q] at h
          simp only at h
          obtain ⟨vs, rfl, hn, h1, h2⟩ := ro.lst_at sr q
          by_cases hz : xs.length < sizeLine
          · rw [if_pos hz] at h
            have wr := sr.wlst hn q h1 (h2.append (.cons r1 .nil))
            exact mt_append pins s σ H _ _ v us Q I rx rs ⟨_, vs, _, rfl, rfl, h1, by rw [← h2.length]; exact hz, h _ μ .non wr.2 wr.1 .non⟩
          · rw [if_neg hz] at h; exact h.elim
        | _ => rw [q] at h; exact h.elim
  | _ => exact h.elim
theorem ms_pop : MtS X T "list.pop" mtPop := by
  intro pins s σ H x xs v us Q I rx rs h
  obtain ⟨μ, S, o, as, sr, ro, ra, h⟩ := h
  cases o with
  | ref n =>
    cases ra with
    | cons _ _ => exact h.elim
    | nil =>
      unfold mtPop at h
      simp only at h
      cases q : S.at_ n with
      | lst xs =>
        rw [q] at h
        simp only at h
        obtain ⟨vs, rfl, hn, h1, h2⟩ := ro.lst_at sr q
        cases g : xs[xs.length - 1]? with
        | none => rw [g] at h; exact h.elim
        | some w =>
          rw [g] at h
          obtain ⟨y, h3, h4⟩ := h2.get g
          have wr := sr.wlst hn q h1 h2.dropLast
          exact mt_pop pins s σ H _ _ v us Q I rx rs ⟨_, vs, y, rfl, rfl, h1, by rw [← h2.length]; exact h3, h _ μ y wr.2 wr.1 (h4.ext wr.2)⟩
      | _ => rw [q] at h; exact h.elim
  | _ => exact h.elim
theorem ms_popAt : MtS X T "list.pop" mtPopAt := by
  intro pins s σ H x xs v us Q I rx rs h
  obtain ⟨μ, S, o, as, sr, ro, ra, h⟩ := h
  cases o with
  | ref n =>
    cases ra with
    | nil => exact h.elim
    | cons r1 r2 =>
      cases r2 with
      | cons _ _ => cases r1 <;> exact h.elim
      | nil =>
        cases r1 with
        | int i =>
          unfold mtPopAt at h
          simp only at h
          cases q : S.at_ n with
          | lst xs =>
            rw [q] at h
            simp only at h
            obtain ⟨vs, rfl, hn, h1, h2⟩ := ro.lst_at sr q
            by_cases hz : -(2 ^ 63) ≤ i ∧ i < 2 ^ 63
            · rw [if_pos hz] at h
              cases g : seqIndex? i xs.length with
              | none => rw [g] at h; exact h.elim
              | some k =>
                rw [g] at h
                simp only at h
                cases g2 : xs[k]? with
                | none => rw [g2] at h; exact h.elim
                | some w =>
                  rw [g2] at h
                  obtain ⟨y, h3, h4⟩ := h2.get g2
                  have wr := sr.wlst hn q h1 (h2.eraseIdx k)
                  exact mt_popAt pins s σ H _ _ v us Q I rx rs ⟨_, vs, i, k, y, rfl, rfl, h1, hz.1, hz.2, by rw [← h2.length]; exact g, h3, h _ μ y wr.2 wr.1 (h4.ext wr.2)⟩
            · rw [if_neg hz] at h; exact h.elim
          | _ => rw [q] at h; exact h.elim
        | _ => exact h.elim
  | _ => exact h.elim
theorem ms_extend : MtS X T "list.extend" mtExtend := by
  intro pins s σ H x xs v us Q I rx rs h
  obtain ⟨μ, S, o, as, sr, ro, ra, h⟩ := h
  cases o with
  | ref n =>
    cases ra with
    | nil => exact h.elim
    | cons r1 r2 =>
      cases r2 with
      | cons _ _ => cases r1 <;> exact h.elim
      | nil =>
        rename_i w y
        cases w with
        | ref m =>
          unfold mtExtend at h
          simp only at h
          cases q : S.at_ n with
          | lst xs =>
            cases q2 : S.at_ m with
            | lst ys =>
              rw [q, q2] at h
              simp only at h
              obtain ⟨vs, rfl, hn, h1, h2⟩ := ro.lst_at sr q
              obtain ⟨ws, rfl, hm, k1, k2⟩ := r1.lst_at sr q2
              by_cases hz : xs.length + ys.length ≤ sizeLine
              · rw [if_pos hz] at h
                have wr := sr.wlst hn q h1 (h2.append k2)
                exact mt_extend pins s σ H _ _ v us Q I rx rs ⟨_, _, vs, ws, rfl, rfl, h1, k1, by rw [← h2.length, ← k2.length]; exact hz, h _ μ .non wr.2 wr.1 .non⟩
              · rw [if_neg hz] at h; exact h.elim
            | _ => rw [q, q2] at h; exact h.elim
          | _ => rw [q] at h; exact h.elim
        | _ => exact h.elim
  | _ => exact h.elim
end
end Q

set_option linter.all false
set_option maxRecDepth 100000
set_option maxHeartbeats 400000
namespace Q
open PySem PySem.Spec PyProof.Rows L2

/-! ### built-ins -/
def tyN (S : Sto) : Vl → Option String
  | .non => some "NoneType"
  | .bl _ => some "bool"
  | .int _ => some "int"
  | .str _ => some "str"
  | .tup _ => some "tuple"
  | .ref n => (match S.at_ n with
    | .lst _ => some "list"
    | .ro _ => some "list"
    | .dic _ _ => some "dict"
    | _ => none)
  | _ => none
def tyNs : List String := ["NoneType", "bool", "int", "str", "tuple", "list", "dict"]
def tyCs : List String := ["bool", "int", "str", "tuple", "list", "dict"]
def isT (a b : String) : Bool := a == b || (a == "bool" && b == "int")
theorem kit_all : (tyNs.all fun a => tyCs.all fun b => decide (kitB a b = some (isT a b))) = true := by decide +kernel
theorem kit_at {a b : String} (h : a ∈ tyNs) (h' : b ∈ tyCs) : kitB a b = some (isT a b) :=
  of_decide_eq_true (List.all_eq_true.mp (List.all_eq_true.mp kit_all a h) b h')
def bIsi : List Vl → MO Vl := fun as S => match as with
  | [v, .ty b] => (match tyN S v with | some a => if b ∈ tyCs then some (.bl (isT a b), S) else none | none => none)
  | _ => none
section
variable {K : PySem.W.Frag} {mg : Str → Option Value} {T : Tb} {H : Hp} {μ : Nat → Addr} {S : Sto} {N : Nat}
theorem tyN_at {v : Vl} {x : V} {a : String} (sr : SRel K mg T H μ S) (r : Rp K mg H μ S.n v x) (h : tyN S v = some a) : TyX K H x (.type a) ∧ a ∈ tyNs := by
  cases v with
  | non => cases h; cases r; exact ⟨.base .non, by decide⟩
  | bl b => cases h; cases r; exact ⟨.base (.bl b), by decide⟩
  | int b => cases h; cases r; exact ⟨.base (.int b), by decide⟩
  | str b => cases h; cases r; exact ⟨.base (.str b), by decide⟩
  | tup xs =>
    cases h
    obtain ⟨p, vs, rfl, h1, _⟩ := r.tup_at
    refine ⟨?_, by decide⟩
    rcases h1 with (h1 | ⟨o, h1⟩) | ⟨o, its, n, h1, h2, _⟩
    · exact .base (.tup h1)
    · exact .fTuple h1
    · exact .kTuple h1 h2
  | ref n =>
    cases r with
    | ref n hn =>
    have ob := sr.at_ n hn
    unfold tyN at h
    cases q : S.at_ n with
    | lst xs =>
      rw [q] at ob; simp only [q] at h; cases h
      obtain ⟨vs, h1, _⟩ := ob
      exact ⟨.base (.lst h1), by decide⟩
    | ro xs =>
      rw [q] at ob; simp only [q] at h; cases h
      obtain ⟨vs, h1, _⟩ := ob
      refine ⟨?_, by decide⟩
      rcases h1 with ⟨o, h1⟩ | ⟨o, its, n, h1, h2, _⟩
      · exact .base (.frz h1)
      · exact .kList h1 h2
    | dic lk kvs =>
      rw [q] at ob; simp only [q] at h; cases h
      cases lk with
      | false => obtain ⟨vs, h1, _⟩ := ob; exact ⟨.base (.dK h1), by decide⟩
      | true => obtain ⟨o, vs, h1, _⟩ := ob; exact ⟨.fDict h1, by decide⟩
    | _ => simp only [q] at h; cases h
  | _ => cases h
theorem bIsi_eq {as : List Vl} {p : Vl × Sto} (h : bIsi as S = some p) : ∃ v b a, as = [v, .ty b] ∧ tyN S v = some a ∧ b ∈ tyCs ∧ p = (.bl (isT a b), S) := by
  unfold bIsi at h
  split at h
  · rename_i v b
    cases e : tyN S v with
    | none => rw [e] at h; cases h
    | some a =>
      rw [e] at h
      simp only at h
      by_cases hb : b ∈ tyCs
      · rw [if_pos hb] at h; cases h; exact ⟨v, b, a, rfl, e, hb, rfl⟩
      · rw [if_neg hb] at h; cases h
  · cases h
end
/-- of an outcome that is there -/
theorem PstO.some_ {K : PySem.W.Frag} {mg : Str → Option Value} {T : Tb} {α β : Type} {rel : Hp → (Nat → Addr) → Nat → α → β → Prop} {H : Hp} {μ : Nat → Addr} {N : Nat} {Q : β → Hp → Prop} {o : Option (α × Sto)} (h : PstO K mg T rel H μ N Q o) : ∃ p, o = some p := by
  cases o with
  | none => exact h.elim
  | some p => exact ⟨p, rfl⟩
section
variable {X : Cx} {T : Tb}
theorem cs_isi : CaS X T (.builtin "isinstance") bIsi := by
  intro pins s σ H xs us Q I rs h
  obtain ⟨μ, S, as, sr, ra, h⟩ := h
  obtain ⟨p, e⟩ := h.some_
  obtain ⟨v, b, a, rfl, h1, h2, rfl⟩ := bIsi_eq e
  rw [e] at h
  cases ra with
  | cons r1 r2 =>
    cases r2 with
    | cons r2 r3 =>
      cases r3
      cases r2
      obtain ⟨ty, ha⟩ := tyN_at sr r1 h1
      exact call_isi pins s σ H _ us Q I rs ⟨_, _, _, _, _, rfl, .ty b, ty, kit_ty (kit_at ha h2), PstO.here h sr (.bl _)⟩
end

/-! ### len, abs, int -/
def bLen : List Vl → MO Vl := fun as S => match as with
  | [.str z] => if z.length ≤ sizeLine then some (.int z.length, S) else none
  | [.tup xs] => some (.int xs.length, S)
  | [.ref n] => (match S.at_ n with
    | .lst xs => some (.int xs.length, S)
    | .ro xs => some (.int xs.length, S)
    | .dic _ kvs => some (.int kvs.length, S)
    | _ => none)
  | _ => none
def bAbs : List Vl → MO Vl := fun as S => match as with
  | [.int i] => some (.int (if i < 0 then -i else i), S)
  | _ => none
def bInt : List Vl → MO Vl := fun as S => match as with
  | [.int i] => some (.int i, S)
  | [.bl b] => some (.int (if b then 1 else 0), S)
  | _ => none
def bTuple : List Vl → MO Vl := fun as S => match as with
  | [.ref n] => (match getR S n with | some xs => some (.tup xs, S) | none => none)
  | [.tup xs] => some (.tup xs, S)
  | _ => none
def bList : List Vl → MO Vl := fun as S => match as with
  | [.ref n] => (match getR S n with | some xs => some (.ref S.n, S.push (.lst xs)) | none => none)
  | [.tup xs] => some (.ref S.n, S.push (.lst xs))
  | _ => none
def asInts : List Vl → Option (List Int)
  | [] => some []
  | .int i :: r => (asInts r).map (i :: ·)
  | _ => none
def asBls : List Vl → Option (List Bool)
  | [] => some []
  | .bl i :: r => (asBls r).map (i :: ·)
  | _ => none
def asStrs : List Vl → Option (List Str)
  | [] => some []
  | .str i :: r => (asStrs r).map (i :: ·)
  | _ => none
def maxI : List Int → Int
  | [] => 0
  | [x] => x
  | x :: r => max x (maxI r)
def minI : List Int → Int
  | [] => 0
  | [x] => x
  | x :: r => min x (minI r)
theorem maxI_mem : ∀ {l : List Int}, l ≠ [] → maxI l ∈ l
  | [], h => absurd rfl h
  | [x], _ => List.mem_cons_self
  | x :: y :: r, _ => by
    have ih := maxI_mem (l := y :: r) (by simp)
    show max x (maxI (y :: r)) ∈ _
    rcases Int.le_total x (maxI (y :: r)) with h | h
    · rw [Int.max_eq_right h]; exact List.mem_cons_of_mem _ ih
    · rw [Int.max_eq_left h]; exact List.mem_cons_self
theorem maxI_ge : ∀ {l : List Int}, ∀ y ∈ l, y ≤ maxI l
  | [], _, h => by cases h
  | [x], y, h => by rw [List.mem_singleton.mp h]; exact Int.le_refl _
  | x :: z :: r, y, h => by
    show y ≤ max x (maxI (z :: r))
    rcases List.mem_cons.mp h with h | h
    · rw [h]; exact Int.le_max_left _ _
    · exact Int.le_trans (maxI_ge y h) (Int.le_max_right _ _)
theorem minI_mem : ∀ {l : List Int}, l ≠ [] → minI l ∈ l
  | [], h => absurd rfl h
  | [x], _ => List.mem_cons_self
  | x :: y :: r, _ => by
    have ih := minI_mem (l := y :: r) (by simp)
    show min x (minI (y :: r)) ∈ _
    rcases Int.le_total x (minI (y :: r)) with h | h
    · rw [Int.min_eq_left h]; exact List.mem_cons_self
    · rw [Int.min_eq_right h]; exact List.mem_cons_of_mem _ ih
theorem minI_le : ∀ {l : List Int}, ∀ y ∈ l, minI l ≤ y
  | [], _, h => by cases h
  | [x], y, h => by rw [List.mem_singleton.mp h]; exact Int.le_refl _
  | x :: z :: r, y, h => by
    show min x (minI (z :: r)) ≤ y
    rcases List.mem_cons.mp h with h | h
    · rw [h]; exact Int.min_le_left _ _
    · exact Int.le_trans (Int.min_le_right _ _) (minI_le y h)
def bSum : List Vl → MO Vl := fun as S => match as with
  | [.ref n] => (match (getR S n).bind asInts with | some ns => some (.int ns.sum, S) | none => none)
  | _ => none
def bMax : List Vl → MO Vl := fun as S => match as with
  | [.ref n] => (match (getR S n).bind asInts with | some (x :: r) => some (.int (maxI (x :: r)), S) | _ => none)
  | [.int i, .int j] => some (.int (if j > i then j else i), S)
  | _ => none
def bMin : List Vl → MO Vl := fun as S => match as with
  | [.ref n] => (match (getR S n).bind asInts with | some (x :: r) => some (.int (minI (x :: r)), S) | _ => none)
  | [.int i, .int j] => some (.int (if j < i then j else i), S)
  | _ => none
def bAll : List Vl → MO Vl := fun as S => match as with
  | [.ref n] => (match (getR S n).bind asBls with | some bs => some (.bl (bs.all id), S) | none => none)
  | _ => none
def bAny : List Vl → MO Vl := fun as S => match as with
  | [.ref n] => (match (getR S n).bind asBls with | some bs => some (.bl (bs.any id), S) | none => none)
  | _ => none
section
variable {K : PySem.W.Frag} {mg : Str → Option Value} {T : Tb} {H : Hp} {μ : Nat → Addr} {S : Sto} {N : Nat}
theorem asInts_rel : ∀ {xs : List Vl} {vs : List V} {ns : List Int}, asInts xs = some ns → RpAll K mg H μ N xs vs → vs = ns.map V.int
  | [], _, _, e, .nil => by cases e; rfl
  | .int i :: r, _, _, e, .cons r1 rs => by
    cases r1
    unfold asInts at e
    cases q : asInts r with
    | none => rw [q] at e; cases e
    | some ms => rw [q] at e; cases e; rw [asInts_rel q rs]; rfl
  | .non :: _, _, _, e, _ => by cases e
  | .bl _ :: _, _, _, e, _ => by cases e
  | .str _ :: _, _, _, e, _ => by cases e
  | .tup _ :: _, _, _, e, _ => by cases e
  | .ref _ :: _, _, _, e, _ => by cases e
  | .gl _ :: _, _, _, e, _ => by cases e
  | .ty _ :: _, _, _, e, _ => by cases e
  | .exc _ _ _ :: _, _, _, e, _ => by cases e
theorem asBls_rel : ∀ {xs : List Vl} {vs : List V} {ns : List Bool}, asBls xs = some ns → RpAll K mg H μ N xs vs → vs = ns.map V.bl
  | [], _, _, e, .nil => by cases e; rfl
  | .bl i :: r, _, _, e, .cons r1 rs => by
    cases r1
    unfold asBls at e
    cases q : asBls r with
    | none => rw [q] at e; cases e
    | some ms => rw [q] at e; cases e; rw [asBls_rel q rs]; rfl
  | .non :: _, _, _, e, _ => by cases e
  | .int _ :: _, _, _, e, _ => by cases e
  | .str _ :: _, _, _, e, _ => by cases e
  | .tup _ :: _, _, _, e, _ => by cases e
  | .ref _ :: _, _, _, e, _ => by cases e
  | .gl _ :: _, _, _, e, _ => by cases e
  | .ty _ :: _, _, _, e, _ => by cases e
  | .exc _ _ _ :: _, _, _, e, _ => by cases e
theorem asStrs_rel : ∀ {xs : List Vl} {vs : List V} {ns : List Str}, asStrs xs = some ns → RpAll K mg H μ N xs vs → vs = ns.map V.str
  | [], _, _, e, .nil => by cases e; rfl
  | .str i :: r, _, _, e, .cons r1 rs => by
    cases r1
    unfold asStrs at e
    cases q : asStrs r with
    | none => rw [q] at e; cases e
    | some ms => rw [q] at e; cases e; rw [asStrs_rel q rs]; rfl
  | .non :: _, _, _, e, _ => by cases e
  | .int _ :: _, _, _, e, _ => by cases e
  | .bl _ :: _, _, _, e, _ => by cases e
  | .tup _ :: _, _, _, e, _ => by cases e
  | .ref _ :: _, _, _, e, _ => by cases e
  | .gl _ :: _, _, _, e, _ => by cases e
  | .ty _ :: _, _, _, e, _ => by cases e
  | .exc _ _ _ :: _, _, _, e, _ => by cases e
/-- one argument -/
theorem RpAll.one {a : Vl} {xs : List V} (r : RpAll K mg H μ N [a] xs) : ∃ x, xs = [x] ∧ Rp K mg H μ N a x := by
  cases r with | cons r1 r2 => cases r2; exact ⟨_, rfl, r1⟩
theorem RpAll.two {a b : Vl} {xs : List V} (r : RpAll K mg H μ N [a, b] xs) : ∃ x y, xs = [x, y] ∧ Rp K mg H μ N a x ∧ Rp K mg H μ N b y := by
  cases r with | cons r1 r2 => cases r2 with | cons r2 r3 => cases r3; exact ⟨_, _, rfl, r1, r2⟩
/-- a list that is read, with a look at its items -/
theorem rd_bind {α : Type} {n : Nat} {f : List Vl → Option α} {y : α} {x : V} (sr : SRel K mg T H μ S) (r : Rp K mg H μ S.n (.ref n) x) (e : (getR S n).bind f = some y) : ∃ xs vs, f xs = some y ∧ x = .ref (μ n) ∧ SqL K H (μ n) vs ∧ RpAll K mg H μ S.n xs vs := by
  cases q : getR S n with
  | none => rw [q] at e; cases e
  | some xs =>
    rw [q] at e
    obtain ⟨vs, h1, h2, h3⟩ := r.read_at sr q
    exact ⟨xs, vs, e, h1, h2, h3⟩
end
section
variable {X : Cx} {T : Tb}
theorem cs_abs : CaS X T (.builtin "abs") bAbs := by
  intro pins s σ H xs us Q I rs h
  obtain ⟨μ, S, as, sr, ra, h⟩ := h
  obtain ⟨p, e⟩ := h.some_
  unfold bAbs at e h
  split at e
  · obtain ⟨x, rfl, r1⟩ := ra.one
    cases r1
    exact call_abs pins s σ H _ us Q I rs ⟨_, rfl, PstO.here h sr (.int _)⟩
  · cases e
theorem cs_int : CaS X T (.type "int") bInt := by
  intro pins s σ H xs us Q I rs h
  obtain ⟨μ, S, as, sr, ra, h⟩ := h
  obtain ⟨p, e⟩ := h.some_
  unfold bInt at e h
  split at e
  · obtain ⟨x, rfl, r1⟩ := ra.one
    cases r1
    exact call_int1 pins s σ H _ us Q I rs (.inl ⟨_, rfl, PstO.here h sr (.int _)⟩)
  · obtain ⟨x, rfl, r1⟩ := ra.one
    cases r1
    exact call_int1 pins s σ H _ us Q I rs (.inr ⟨_, rfl, PstO.here h sr (.int _)⟩)
  · cases e
theorem cs_len : CaS X T (.builtin "len") bLen := by
  intro pins s σ H xs us Q I rs h
  obtain ⟨μ, S, as, sr, ra, h⟩ := h
  obtain ⟨p, e⟩ := h.some_
  unfold bLen at e h
  split at e
  · rename_i z
    obtain ⟨x, rfl, r1⟩ := ra.one
    cases r1
    by_cases hz : z.length ≤ sizeLine
    · simp only [if_pos hz] at h
      exact call_len pins s σ H _ us Q I rs ⟨_, _, rfl, ⟨hz, rfl⟩, PstO.here h sr (.int _)⟩
    · simp only [if_neg hz] at e; cases e
  · rename_i zs
    obtain ⟨x, rfl, r1⟩ := ra.one
    obtain ⟨q, vs, rfl, h1, h2⟩ := r1.tup_at
    exact call_len pins s σ H _ us Q I rs ⟨_, zs.length, rfl, .inr ⟨vs, h1, h2.length⟩, PstO.here h sr (.int _)⟩
  · rename_i n
    obtain ⟨x, rfl, r1⟩ := ra.one
    cases q : S.at_ n with
    | lst zs =>
      simp only [q] at h
      obtain ⟨vs, rfl, hn, h1, h2⟩ := r1.lst_at sr q
      exact call_len pins s σ H _ us Q I rs ⟨_, zs.length, rfl, .inl ⟨vs, .inl (.inl h1), h2.length⟩, PstO.here h sr (.int _)⟩
    | ro zs =>
      simp only [q] at h
      obtain ⟨vs, rfl, h1, h2⟩ := r1.read_at (xs := zs) sr (by unfold getR; rw [q])
      exact call_len pins s σ H _ us Q I rs ⟨_, zs.length, rfl, .inl ⟨vs, h1, h2.length⟩, PstO.here h sr (.int _)⟩
    | dic lk kvs =>
      simp only [q] at h
      cases r1 with
      | ref n hn =>
      obtain ⟨vs, h1, h2⟩ := dic_at sr hn q
      obtain ⟨u, rfl, ru⟩ := Vals.one rs
      cases ru
      refine d_len I h1 fun t s' I' => ⟨.int kvs.length, H, I', ⟨t, ?_⟩, PstO.here h sr (.int _)⟩
      rw [h2.length]
    | _ => simp only [q] at e; cases e
  · cases e
theorem cs_tuple : CaS X T (.type "tuple") bTuple := by
  intro pins s σ H xs us Q I rs h
  obtain ⟨μ, S, as, sr, ra, h⟩ := h
  obtain ⟨p, e⟩ := h.some_
  unfold bTuple at e h
  split at e
  · rename_i n
    obtain ⟨x, rfl, r1⟩ := ra.one
    cases q : getR S n with
    | none => simp only [q] at e; cases e
    | some zs =>
      simp only [q] at h
      obtain ⟨vs, rfl, h1, h2⟩ := r1.read_at sr q
      exact call_tuple_of pins s σ H _ us Q I rs ⟨_, vs, rfl, .inl ⟨h1, fin_tup h sr h2⟩⟩
  · rename_i zs
    obtain ⟨x, rfl, r1⟩ := ra.one
    obtain ⟨q, vs, rfl, h1, h2⟩ := r1.tup_at
    exact call_tuple_of pins s σ H _ us Q I rs ⟨_, vs, rfl, .inr ⟨h1, PstO.here h sr (.tup h1 h2)⟩⟩
  · cases e
theorem cs_list : CaS X T (.type "list") bList := by
  intro pins s σ H xs us Q I rs h
  obtain ⟨μ, S, as, sr, ra, h⟩ := h
  obtain ⟨p, e⟩ := h.some_
  unfold bList at e h
  split at e
  · rename_i n
    obtain ⟨x, rfl, r1⟩ := ra.one
    cases q : getR S n with
    | none => simp only [q] at e; cases e
    | some zs =>
      simp only [q] at h
      obtain ⟨vs, rfl, h1, h2⟩ := r1.read_at sr q
      exact call_list_of pins s σ H _ us Q I rs ⟨_, vs, rfl, .inl h1, fin_lst h sr h2⟩
  · rename_i zs
    obtain ⟨x, rfl, r1⟩ := ra.one
    obtain ⟨q, vs, rfl, h1, h2⟩ := r1.tup_at
    exact call_list_of pins s σ H _ us Q I rs ⟨_, vs, rfl, .inr h1, fin_lst h sr h2⟩
  · cases e
theorem cs_sum (hc : X.calm = true) : CaS X T (.builtin "sum") bSum := by
  intro pins s σ H xs us Q I rs h
  obtain ⟨μ, S, as, sr, ra, h⟩ := h
  obtain ⟨p, e⟩ := h.some_
  unfold bSum at e h
  split at e
  · rename_i n
    obtain ⟨x, rfl, r1⟩ := ra.one
    cases q : (getR S n).bind asInts with
    | none => simp only [q] at e; cases e
    | some ns =>
      simp only [q] at h
      obtain ⟨zs, vs, k1, rfl, k2, k3⟩ := rd_bind sr r1 q
      rw [asInts_rel k1 k3] at k2
      exact cr_sum hc pins s σ H _ us Q I rs ⟨_, ns, rfl, k2, PstO.here h sr (.int _)⟩
  · cases e
theorem cs_all (hc : X.calm = true) : CaS X T (.builtin "all") bAll := by
  intro pins s σ H xs us Q I rs h
  obtain ⟨μ, S, as, sr, ra, h⟩ := h
  obtain ⟨p, e⟩ := h.some_
  unfold bAll at e h
  split at e
  · rename_i n
    obtain ⟨x, rfl, r1⟩ := ra.one
    cases q : (getR S n).bind asBls with
    | none => simp only [q] at e; cases e
    | some ns =>
      simp only [q] at h
      obtain ⟨zs, vs, k1, rfl, k2, k3⟩ := rd_bind sr r1 q
      rw [asBls_rel k1 k3] at k2
      exact cr_all hc pins s σ H _ us Q I rs ⟨_, ns, rfl, k2, PstO.here h sr (.bl _)⟩
  · cases e
theorem cs_any (hc : X.calm = true) : CaS X T (.builtin "any") bAny := by
  intro pins s σ H xs us Q I rs h
  obtain ⟨μ, S, as, sr, ra, h⟩ := h
  obtain ⟨p, e⟩ := h.some_
  unfold bAny at e h
  split at e
  · rename_i n
    obtain ⟨x, rfl, r1⟩ := ra.one
    cases q : (getR S n).bind asBls with
    | none => simp only [q] at e; cases e
    | some ns =>
      simp only [q] at h
      obtain ⟨zs, vs, k1, rfl, k2, k3⟩ := rd_bind sr r1 q
      rw [asBls_rel k1 k3] at k2
      exact cr_any hc pins s σ H _ us Q I rs ⟨_, ns, rfl, k2, PstO.here h sr (.bl _)⟩
  · cases e
theorem cs_max (hc : X.calm = true) : CaS X T (.builtin "max") bMax := by
  intro pins s σ H xs us Q I rs h
  obtain ⟨μ, S, as, sr, ra, h⟩ := h
  obtain ⟨p, e⟩ := h.some_
  unfold bMax at e h
  split at e
  · rename_i n
    obtain ⟨x, rfl, r1⟩ := ra.one
    cases q : (getR S n).bind asInts with
    | none => simp only [q] at e; cases e
    | some ns =>
      cases ns with
      | nil => simp only [q] at e; cases e
      | cons y r =>
        simp only [q] at h
        obtain ⟨zs, vs, k1, rfl, k2, k3⟩ := rd_bind sr r1 q
        rw [asInts_rel k1 k3] at k2
        refine cr_max hc pins s σ H _ us Q I rs ⟨_, y :: r, rfl, k2, Nat.succ_pos _, fun m hm hg => ?_⟩
        have e2 : m = maxI (y :: r) := Int.le_antisymm (maxI_ge m hm) (hg _ (maxI_mem (by simp)))
        rw [e2]
        exact PstO.here h sr (.int _)
  · obtain ⟨x, y, rfl, r1, r2⟩ := ra.two
    cases r1; cases r2
    exact call_max2 hc pins s σ H _ us Q I rs ⟨_, _, rfl, PstO.here h sr (.int _)⟩
  · cases e
theorem cs_min (hc : X.calm = true) : CaS X T (.builtin "min") bMin := by
  intro pins s σ H xs us Q I rs h
  obtain ⟨μ, S, as, sr, ra, h⟩ := h
  obtain ⟨p, e⟩ := h.some_
  unfold bMin at e h
  split at e
  · rename_i n
    obtain ⟨x, rfl, r1⟩ := ra.one
    cases q : (getR S n).bind asInts with
    | none => simp only [q] at e; cases e
    | some ns =>
      cases ns with
      | nil => simp only [q] at e; cases e
      | cons y r =>
        simp only [q] at h
        obtain ⟨zs, vs, k1, rfl, k2, k3⟩ := rd_bind sr r1 q
        rw [asInts_rel k1 k3] at k2
        refine cr_min hc pins s σ H _ us Q I rs ⟨_, y :: r, rfl, k2, Nat.succ_pos _, fun m hm hg => ?_⟩
        have e2 : m = minI (y :: r) := Int.le_antisymm (hg _ (minI_mem (by simp))) (minI_le m hm)
        rw [e2]
        exact PstO.here h sr (.int _)
  · obtain ⟨x, y, rfl, r1, r2⟩ := ra.two
    cases r1; cases r2
    exact call_min2 hc pins s σ H _ us Q I rs ⟨_, _, rfl, PstO.here h sr (.int _)⟩
  · cases e
end
end Q

set_option linter.all false
set_option maxRecDepth 100000
set_option maxHeartbeats 400000
namespace Q
open PySem PySem.Spec PyProof.Rows L2

/-! ### calls by keywords alone -/
theorem PK.imp {X : Cx} {e : List Keyword} {t t' : TA} (h : PK X e t) (i : ∀ σ H Q, t' σ H Q → t σ H Q) : PK X e t' := ⟨fun pos pins s σ H Q I q => h.run pos pins s σ H Q I (i σ H Q q)⟩
abbrev SK (X : Cx) (T : Tb) (W : WX) (es : List Keyword) (f : En → M (List Vl)) : Prop := PK X es (tOfA X.K X.mg T W f)
def reord (perm : List Nat) (ws : List α) : List α := perm.filterMap (ws[·]?)
def mCallK (f : List Vl → M Vl) (perm : List Nat) (g : En → M (List Vl)) : En → M Vl := fun ρ => bnd (g ρ) fun vs => f (reord perm vs)
structure CalK (g : Bool) (P : Program) (w : World) (K : PySem.W.Frag) (mg : Str → Option Value) (T : Tb) (base : Heap) (k : Nat) (x : Str) (ks : List Str) (perm : List Nat) (f : List Vl → M Vl) : Prop where
  ex : ∃ (a : Addr) (fd : FuncData) (ps : List Str), mg x = some (.ref a) ∧ PySem.W.keepIn K (.ref a) = true ∧ FnQ g P w K mg base k a fd ps (spF K mg T ps.length f) ∧ (∀ as S, as.length ≠ ps.length → f as S = none) ∧
    ∀ (ws : List Value), (reord perm ws).length = ps.length → bindArgs fd ⟨[], ks.zip ws⟩ = pure (ps.zip (reord perm ws))
theorem get_vals {vs : List V} {us : List Value} (r : Vals vs us) : ∀ (i : Nat), (∃ v u, vs[i]? = some v ∧ us[i]? = some u ∧ RelV v u) ∨ (vs[i]? = none ∧ us[i]? = none) := by
  induction r with
  | nil => exact fun i => .inr ⟨rfl, rfl⟩
  | cons r1 r2 ih =>
    intro i
    cases i with
    | zero => exact .inl ⟨_, _, rfl, rfl, r1⟩
    | succ i => rcases ih i with ⟨v, u, h1, h2, h3⟩ | ⟨h1, h2⟩
                · exact .inl ⟨v, u, by simpa using h1, by simpa using h2, h3⟩
                · exact .inr ⟨by simpa using h1, by simpa using h2⟩
theorem reord_vals {vs : List V} {us : List Value} (r : Vals vs us) : ∀ perm : List Nat, Vals (reord perm vs) (reord perm us)
  | [] => .nil
  | i :: perm => by
    have ih := reord_vals r perm
    unfold reord at ih ⊢
    rcases get_vals r i with ⟨v, u, h1, h2, h3⟩ | ⟨h1, h2⟩
    · rw [List.filterMap_cons_some (f := fun (x : Nat) => vs[x]?) h1, List.filterMap_cons_some (f := fun (x : Nat) => us[x]?) h2]; exact .cons h3 ih
    · rw [List.filterMap_cons_none (f := fun (x : Nat) => vs[x]?) h1, List.filterMap_cons_none (f := fun (x : Nat) => us[x]?) h2]; exact ih
theorem reord_rp {K : PySem.W.Frag} {mg : Str → Option Value} {H : Hp} {μ : Nat → Addr} {N : Nat} {vs : List Vl} {us : List V} (r : RpAll K mg H μ N vs us) : ∀ perm : List Nat, RpAll K mg H μ N (reord perm vs) (reord perm us)
  | [] => .nil
  | i :: perm => by
    have ih := reord_rp r perm
    unfold reord at ih ⊢
    cases e : vs[i]? with
    | some v =>
      obtain ⟨u, h2, h3⟩ := r.get e
      rw [List.filterMap_cons_some (f := fun (x : Nat) => vs[x]?) e, List.filterMap_cons_some (f := fun (x : Nat) => us[x]?) h2]; exact .cons h3 ih
    | none =>
      have h2 : us[i]? = none := by rw [List.getElem?_eq_none_iff] at e ⊢; rw [← r.length]; exact e
      rw [List.filterMap_cons_none (f := fun (x : Nat) => vs[x]?) e, List.filterMap_cons_none (f := fun (x : Nat) => us[x]?) h2]; exact ih
section
variable {X : Cx} {T : Tb} {W : WX} {k : Nat} {x : Str} {f : List Vl → M Vl} {p pos : Pos} {ks : List Str} {perm : List Nat} {kws : List Keyword} {g : En → M (List Vl)}
theorem sk_nil : SK X T W [] mNil := PK.imp pk_nil fun σ H Q ⟨ρ, μ, S, sr, er, h⟩ => Pst.here (x := ([] : List V)) h sr .nil
theorem sk_cons {e : Expr} {nm : Option Str} {kpos : Pos} {f : En → M Vl} {g : En → M (List Vl)} (ha : SE X T W e f) (hr : SK X T W kws g) : SK X T W (⟨nm, e, kpos⟩ :: kws) (mCons f g) := by
  refine PK.imp (pk_cons ha hr) fun σ H Q h => ?_
  obtain ⟨ρ, μ, S, sr, er, h⟩ := h
  refine ⟨ρ, μ, S, sr, er, Pst.bnd_ h fun v S1 H1 μ1 x e1 sr1 rx h1 => ?_⟩
  refine ⟨ρ, μ1, S1, sr1, er.ext e1, Pst.bnd_ h1 fun w S2 H2 μ2 y e2 sr2 ry h2 => ?_⟩
  exact Pst.here h2 sr2 (.cons (rx.ext e2) ry)
theorem se_callK {b : Bool} (c : CalK b X.prog X.w X.K X.mg T X.base k x ks perm f) (hr : Room k X.A) (hgd : b = true → X.A.guards = some []) (tk : Takes X W) (hkw : SK X T W kws g) (hg : Gl X x := by rfl) (hdb : (x == ("__debug__" : Str)) = false := by decide)
    (hall : (backToKw pos (keywordEach kws X.env)).all (·.1.isSome) = true := by rfl) (hks : (backToKw pos (keywordEach kws X.env)).filterMap (·.1) = ks := by rfl)
    (hpl : ((backTo pos (starEach [] X.env)).any (·.1) || (backToKw pos (keywordEach kws X.env)).any (·.1.isNone)) = false := by rfl) : SE X T W (.Call (.Name x p) [] kws pos) (mCallK f perm g) := by
  obtain ⟨a, fd, ps, hm, hk, F, hlen, hb⟩ := c.ex
  refine ⟨fun pins s σ H Q I h => ?_⟩
  obtain ⟨ρ, μ, S, sr, er, h⟩ := h
  refine wpAny_Call_Name_kw (ld_glob I hg hm ?_ hdb)
  refine PySem.W.callWith_KW0 (h₀ := X.base) I.ok.mod.kin hk hall (thn (hkw.run pos pins s σ H (fun vs H1 => spF X.K X.mg T ps.length f (reord perm vs) H1 Q (WE W σ)) I ⟨ρ, μ, S, sr, er, Pst.bnd_ h fun v S1 H1 μ1 x e1 sr1 rx h1 => ?_⟩) fun ws s2 ⟨zs, H2, I2, rz, q2⟩ => ⟨I2.kIn, ?_⟩) hpl
  · have rr := reord_rp rx perm
    refine ⟨?_, μ1, S1, reord perm v, sr1, rr, h1⟩
    rw [← rr.length]
    by_cases hz : (reord perm v).length = ps.length
    · exact hz
    · rw [hlen _ _ hz] at h1; exact h1.elim
  · rw [hks]
    have r2 := reord_vals rz perm
    have hl : (reord perm ws).length = ps.length := by rw [← r2.length]; exact F.len _ _ _ _ q2
    refine wpAny_call (codeAny_mono (F.run X.A X.stack s2 H2 ⟨[], ks.zip ws⟩ (reord perm ws) (reord perm zs) Q (WE W σ) hr hgd I2.env0 (.of_eq (hb ws hl)) r2 q2) fun r s' hq => ?_)
    cases r with
    | error e => exact passAt tk σ pins H2 s2 e s' I2 hq
    | ok fl =>
      cases fl with
      | ret u => exact I2.after hq
      | next => exact False.elim hq
      | brk => exact False.elim hq
      | cont => exact False.elim hq
end

/-! ### repr -/
def reprOf (S : Sto) (v : Vl) : Option Str := match toD S v with
  | some d => if d.showable = true ∧ d.shown.length ≤ sizeLine ∧ d.depth ≤ 190 ∧ d.hasDict = false then some d.shown else none
  | none => none
def bRepr : List Vl → MO Vl := fun as S => match as with
  | [v] => (match reprOf S v with | some z => some (.str z, S) | none => none)
  | _ => none
section
variable {X : Cx} {T : Tb}
theorem cs_repr (hu : X.A.units + 192 < cLine) (hg : X.A.guards = some []) : CaS X T (.builtin "repr") bRepr := by
  intro pins s σ H xs us Q I rs h
  obtain ⟨μ, S, as, sr, ra, h⟩ := h
  obtain ⟨p, e⟩ := h.some_
  rw [e] at h
  unfold bRepr at e
  split at e
  · rename_i v
    unfold reprOf at e
    cases ed : toD S v with
    | none => rw [ed] at e; cases e
    | some d =>
      rw [ed] at e
      simp only at e
      by_cases hc : d.showable = true ∧ d.shown.length ≤ sizeLine ∧ d.depth ≤ 190 ∧ d.hasDict = false
      · rw [if_pos hc] at e
        cases e
        obtain ⟨h1, h2, h3, h4⟩ := hc
        cases ra with
        | cons r1 r2 =>
        cases r2
        cases rs with
        | cons r1' r2' =>
        cases r2'
        rename_i x u
        have dp := Dp_toD sr r1 ed
        obtain ⟨cs, rd⟩ := Dp.reads I d x u dp r1'
        have fin : ∀ h' tk tk', (∀ b o, s.heap.get? b = some o → h'.get? b = some o) → EP X pins σ Q (.str d.shown tk) { s with heap := h', toks := tk' } := fun h' tk tk' hk => ⟨.str d.shown, H, I.kept (t' := tk') hk, ⟨tk, rfl⟩, PstO.here h sr (.str _)⟩
        cases rd with
        | none => exact PySem.P.repr_of_none (fin s.heap _ _ fun _ _ z => z)
        | bool b => exact PySem.P.repr_of_bool (fin s.heap _ _ fun _ _ z => z)
        | int i t => exact PySem.P.repr_of_int (by simpa [PyData.showable] using h1) (fin s.heap _ _ fun _ _ z => z)
        | str z t => exact PySem.P.repr_of_str (fin s.heap _ _ fun _ _ z => z) (by simpa only [PyData.shown] using h2)
        | list q1 q2 q3 q4 => exact repr_of_reads' (.list q1 q2 q3 q4) h1 (PyData.noDict_hsm h4) hg (by omega) (fun _ _ z => z) (fun h' u tk hk => fin h' _ _ hk) h2
        | tuple q1 q2 q3 q4 => exact repr_of_reads' (.tuple q1 q2 q3 q4) h1 (PyData.noDict_hsm h4) hg (by omega) (fun _ _ z => z) (fun h' u tk hk => fin h' _ _ hk) h2
        | dict q1 q2 q3 q4 q5 => simp only [PyData.hasDict] at h4; cases h4
      · rw [if_neg hc] at e; cases e
  · cases e
end
end Q

set_option linter.all false
set_option maxRecDepth 100000
set_option maxHeartbeats 400000
namespace Q
open PySem PySem.Spec PyProof.Rows L2

/-- the names' values at the entry -/
def startE (nN : Nat) (as : List Vl) : En := as.map some ++ List.replicate (nN - as.length) none
/-- a def's body as a function of values: nN names, np parameters -/
def runF (nN np : Nat) (body : MS) : List Vl → M Vl := fun as S => if as.length = np then (match body (startE nN as) S with
  | some (.rt v, _, S') => some (.ok v, S')
  | some (.nx, _, S') => some (.ok .non, S')
  | some (.ex c f v, _, S') => some (.exc c f v, S')
  | _ => none) else none
/-- what a body's derivation may use -/
structure FCx (g : Bool) (X : Cx) (W : WX) (k : Nat) : Prop where
  gd : g = true → X.A.guards = some []
  hr : Room k X.A
  tk : Takes X W
  po : PassesOwn (model X.prog X.w) X.A X.env X.xe
  calm : X.calm = true
  nd : X.N.Nodup
theorem FCx.u1 {X : Cx} {W : WX} {k : Nat} {g : Bool} (c : FCx g X W k) : X.A.units + 1 < cLine := by have := c.hr.un; omega
theorem FCx.u64 {X : Cx} {W : WX} {k : Nat} {g : Bool} (c : FCx g X W k) : X.A.units + 190 < cLine := by have := c.hr.un; omega

theorem FCx.u65 {X : Cx} {W : WX} {k : Nat} {g : Bool} (c : FCx g X W k) : X.A.units + 65 < cLine := by have := c.hr.un; omega
theorem tk0 {X : Cx} : Takes X W0 := takes0
section
variable {P : Program} {w : World} {K : PySem.W.Frag} {mg : Str → Option Value} {T : Tb} {base : Heap}
abbrev fX (P : Program) (w : World) (K : PySem.W.Frag) (mg : Str → Option Value) (base : Heap) (N : List Str) (qual : Str) (st : Stmt) (f : Addr) (cdv : Value) (A : Around) (outer : List Env) (s : Shared) (H : Hp) (E : XK) : Cx :=
  cxOf (L2.CX P w) P w K mg base N qual (defScope st) f cdv A outer s H E
theorem startE_rel {H : Hp} {μ : Nat → Addr} {M : Nat} {N : List Str} {as : List Vl} {vs : List V} (r : RpAll K mg H μ M as vs) : ERel K mg H μ M (startE N.length as) (L2.start N vs) := by
  have hl := r.length
  refine ⟨by unfold startE L2.start; simp [hl], fun i v q => ?_⟩
  unfold startE at q
  by_cases hi : i < as.length
  · rw [List.getElem?_append_left (by simpa using hi), List.getElem?_map] at q
    cases e : as[i]? with
    | none => rw [e] at q; cases q
    | some a =>
      rw [e] at q; cases q
      obtain ⟨x, h1, h2⟩ := r.get e
      refine ⟨x, ?_, h2⟩
      unfold L2.start
      rw [List.getElem?_append_left (by rw [List.length_map, ← hl]; exact hi), List.getElem?_map, h1]
      rfl
  · rw [List.getElem?_append_right (by simpa using hi), List.getElem?_replicate] at q
    split at q <;> cases q
/-- a def of the program: its object, its code object, its defaults -/
structure FD (K : PySem.W.Frag) (x : Str) (st : Stmt) (f : Addr) (fd : FuncData) (cdv : Value) : Prop where
  ex : ∃ (oc : Value) (od : Option Addr) (dV kV doc pm : Value) (an : Option Addr) (ct : Value) (osl : Array (Option Value)),
    fd = PySem.W.fnOf x x (defArgs st) (defBody st) (defScope st) dV kV doc pm an cdv ct ∧ K.lookup f = some ⟨oc, od, .func fd, osl⟩ ∧ PySem.W.codeIn K cdv x = true
  kp : PySem.W.keepIn K (.ref f) = true
theorem fn_ok {g : Bool} {x : Str} {st : Stmt} {f : Addr} {fd : FuncData} {cdv : Value} {N ps : List Str} {k : Nat} {body : MS} (F : FD K x st f fd cdv) (Sc : FnScope N ps (defScope st))
    (hb : ∀ (A : Around) (outer : List Env) (s : Shared) (H : Hp) (E : XK), FCx g (fX P w K mg base N x st f cdv A outer s H E) (fun cls d _ H' => E cls d H') k → SSs (fX P w K mg base N x st f cdv A outer s H E) T (fun cls d _ H' => E cls d H') (defBody st) body) :
    FnQ g P w K mg base (k + 1) f fd ps (spF K mg T ps.length (runF N.length ps.length body)) := by
  obtain ⟨oc, od, dV, kV, doc, pm, an, ct, osl, rfl, lk, hcd⟩ := F.ex
  refine ⟨fun vs H Q E h => h.1, fun A outer s H args us vs Q E hr hgd e0 hbi r h => ?_⟩
  obtain ⟨hl, μ, S, as, sr, ra, q⟩ := h
  refine LamX.run_ofS lk hcd Sc hr e0 hbi r hl fun hr' => ?_
  have fc : FCx g (fX P w K mg base N x st f cdv A outer s H E) (fun cls d _ H' => E cls d H') k := ⟨hgd, hr', takes_of rfl rfl rfl rfl, passes_of rfl, rfl, Sc.nd⟩
  refine ⟨_, hb A outer s H E fc, startE N.length as, μ, S, sr, startE_rel ra, ?_⟩
  unfold runF at q
  have hla : as.length = ps.length := by rw [ra.length]; exact hl
  rw [if_pos hla] at q
  cases e : body (startE N.length as) S with
  | none => rw [e] at q; exact q
  | some p =>
    obtain ⟨fl, ρ', S'⟩ := p
    rw [e] at q
    cases fl with
    | nx => exact fun H' μ' σ' e' sr' er' => q H' μ' .non e' sr' .non
    | bk => exact q.elim
    | ct => exact q.elim
    | rt v => exact q
    | ex c g v => exact fun H' μ' σ' cls d e' sr' er' x => q H' μ' cls d e' sr' x
/-- a def that is called with all its arguments -/
theorem cal_of {g : Bool} {x : Str} {f : Addr} {fd : FuncData} {ps : List Str} {k : Nat} {h : List Vl → M Vl} (hk : PySem.W.keepIn K (.ref f) = true) (hm : mg x = some (.ref f)) (hb : L2.Binds K fd ps [])
    (ok : FnQ g P w K mg base k f fd ps (spF K mg T ps.length h)) (hl : ∀ as S, as.length ≠ ps.length → h as S = none) : CalS g P w K mg T base k x [] h :=
  ⟨f, fd, ps, [], [], hm, hk, ok, hl, hb, .nil, fun _ _ _ => .nil⟩
theorem calK_of {g : Bool} {x : Str} {f : Addr} {fd : FuncData} {ps ks : List Str} {perm : List Nat} {k : Nat} {h : List Vl → M Vl} (hk : PySem.W.keepIn K (.ref f) = true) (hm : mg x = some (.ref f))
    (hb : ∀ (ws : List Value), (reord perm ws).length = ps.length → bindArgs fd ⟨[], ks.zip ws⟩ = pure (ps.zip (reord perm ws)))
    (ok : FnQ g P w K mg base k f fd ps (spF K mg T ps.length h)) (hl : ∀ as S, as.length ≠ ps.length → h as S = none) : CalK g P w K mg T base k x ks perm h :=
  ⟨f, fd, ps, hm, hk, ok, hl, hb⟩
theorem runF_len {nN np : Nat} {body : MS} : ∀ as S, as.length ≠ np → runF nN np body as S = none := fun as S h => by unfold runF; rw [if_neg h]
/-- at depth nought nothing is promised -/
theorem fn_zero {g : Bool} {k : Nat} {f : Addr} {fd : FuncData} {ps : List Str} {n : Nat} : FnQ g P w K mg base k f fd ps (spF K mg T n fun _ _ => none) :=
  ⟨fun _ _ _ _ h => (by obtain ⟨_, _, _, _, _, _, q⟩ := h; exact q.elim), fun _ _ _ _ _ _ _ _ _ _ _ _ _ _ h => (by obtain ⟨_, _, _, _, _, _, q⟩ := h; exact q.elim)⟩
/-- a def that leans on less -/
theorem FnQ.low {g : Bool} {k : Nat} {f : Addr} {fd : FuncData} {ps : List Str} {sp : Sp} (h : FnQ false P w K mg base k f fd ps sp) : FnQ g P w K mg base k f fd ps sp :=
  ⟨h.len, fun A outer s H args us vs Q E hr _ => h.run A outer s H args us vs Q E hr (fun z => by cases z)⟩
theorem FnQ.mono {g : Bool} {j k : Nat} {f : Addr} {fd : FuncData} {ps : List Str} {sp : Sp} (h : FnQ g P w K mg base j f fd ps sp) (e : j ≤ k) : FnQ g P w K mg base k f fd ps sp :=
  ⟨h.len, fun A outer s H args us vs Q E hr => h.run A outer s H args us vs Q E (hr.mono e)⟩
end

/-! ### raise -/
/-- an own exception class without an own __init__ -/
structure ExcS (K : PySem.W.Frag) (mg : Str → Option Value) (c : Str) (bmB : List Value) (newId : String) : Prop where
  ex : ∃ C, mg c = some (.ref C) ∧ PySem.W.excIn K C bmB newId = true ∧ PySem.W.keepIn K (.ref C) = true ∧ PySem.W.subIn K (.ref C) (.type "BaseException") = some true ∧ PySem.W.typeIn K (.ref C) = some (.type "type")
def sRaise (c : Str) : MS := fun ρ S => some (.ex c "" .non, ρ, S)
section
variable {X : Cx} {T : Tb} {W : WX} {pos : Pos}
theorem ss_raise {c m : Str} {j : Nat} {p p2 pos' : Pos} (hc : X.calm = true) (tk : Takes X W) (C : ExcS X.K X.mg c [.type "ValueError", .type "Exception", .type "BaseException", .type "object"] "ValueError.__new__") (hg : Gl X c := by rfl) (hdb : (c == ("__debug__" : Str)) = false := by decide) :
    SS X T W (.Raise (some (.Call (.Name c p) [.Constant (.str m) j p2] [] pos')) none pos) (sRaise c) := by
  obtain ⟨a, hm, h1, h2, h3, h4⟩ := C.ex
  refine PS.imp (ps_raise hc tk (pmk_own PySem.F.excBase_ValueError h1 hm h2 (raises_own h3 h4) hg hdb)) fun D σ H q => ?_
  obtain ⟨ρ, μ, S, sr, er, q⟩ := q
  exact q H μ σ _ _ Ext.refl sr er ⟨a, hm, rfl, .inl ⟨rfl, rfl⟩⟩
end
end Q

set_option linter.all false
set_option maxRecDepth 100000
set_option maxHeartbeats 800000
namespace Q
open PySem PySem.Spec PyProof.Rows L2

/-! ### an exception that is held on to -/
section
variable {X : Cx} {pins : List (Addr × Obj)} {σ : L2.St} {H : Hp} {s : Shared}
theorem Inv.adopt {a : Addr} {oe : Obj} {vs : Array Value} {cls : Value} {d : Option Addr} (I : Inv X pins σ H s) (he : s.heap.get? a = some oe) (hz : Zc cls d oe) (hd : oe.data = .fields vs) (na : H a = none) (nL : a ≠ X.env.locals)
    (n0 : ∀ o, X.s_0.heap.get? a = some o → a ∈ X.ex) (np : ∀ p ∈ X.pn ++ pins, p.1 ≠ a) : Inv X pins σ (upd H a (excO a cls d)) s := by
  have nn : ∀ {b : Addr} {u : HO}, H b = some u → upd H a (excO a cls d) b = some u := fun {b u} e => by rw [upd_ne (ne_of_none e na)]; exact e
  refine ⟨I.ok, I.os, I.bare, ⟨I.base.keep, I.base.slot, fun b o e n hx => ?_, I.base.there, fun b xs e => nn (I.base.tups b xs e), fun b o u e => nn (I.base.frzs b o u e), fun b ps e => ?_⟩, I.loc, I.cell, ?_, fun x c e => ?_, fun p hp => ?_, fun b u e => ?_, I.len⟩
  · by_cases hb : b = a
    · subst hb; exact absurd (n0 _ e) hx
    · rw [upd_ne hb]; exact I.base.free b o e n hx
  · obtain ⟨more, q⟩ := I.base.tbls b ps e
    exact ⟨more, nn q⟩
  · rw [upd_ne (Ne.symm nL)]; exact I.free
  · have h2 : c ≠ a := fun z => by
      subst z
      obtain ⟨v, o, ho, hv⟩ := I.cell x c e
      rw [he] at ho; cases ho
      rw [hd] at hv; cases hv
    rw [upd_ne h2]; exact I.freeC x c e
  · obtain ⟨e, n, ne, nf, q⟩ := I.pin p hp
    exact ⟨e, by rw [upd_ne (np p hp)]; exact n, ne, nf, q⟩
  · by_cases hb : b = a
    · subst hb
      rw [upd_same] at e
      cases e
      exact ⟨⟨oe, vs, he, hz, hd⟩, ⟨oe, he⟩, fun h1 h2 ⟨o, vs, e1, e2, e3⟩ st => ⟨o, vs, st _ e1, e2, e3⟩⟩
    · rw [upd_ne hb] at e
      exact (I.hok b u e).stay (fun _ _ _ q => q) (fun _ q => nn q) fun _ _ q => nn q
end

/-! ### try: body, except x as n: suite; the exception stays known -/
def wKeep (K : PySem.W.Frag) (c : Value) (i len : Nat) (ts : Addr → Value → Option Addr → TS) (D : Ends) : WX := fun cls d σ H =>
  PySem.W.exmOne K cls c = some true ∧ (σ.length = len → ∀ a, H a = none → ts a cls d { nx := fun σ' H' => D.nx (σ'.set i none) (upd H' a (excO a cls d)), rt := fun _ _ => False, bk := fun _ _ => False, ct := fun _ _ => False } (σ.set i (some (.ref a))) H)
section
variable {X : Cx} {x n : Str} {c : Value} {i : Nat} {body suite : List Stmt} {b₀ : Stmt} {np pos pos' : Pos} {tb : WX → TS} {ts : Addr → Value → Option Addr → TS}
theorem ps_try_keep (hs : X.stack = X.env :: X.outer) (hf : X.env.frame = some X.env.locals) (hN : X.N.Nodup) (hi : X.N[i]? = some n) (hln : X.env.kindOf n = some .local) (hc : Names X x c)
    (hb : ∀ (W : WX) (pn : List (Addr × Obj)) (xe : Value → Shared → Prop), Takes (X.tr pn xe) W → PassesOwn (model X.prog X.w) X.A X.env xe → PSs (X.tr pn xe) body (tb W))
    (hsu : ∀ (a : Addr) (oe : Obj) (cls : Value) (d : Option Addr) (pn : List (Addr × Obj)), Zc cls d oe → (∃ vs, oe.data = .fields vs) → PSs (X.suite a ((a, oe) :: pn)) (b₀ :: suite) (ts a cls d)) :
    PS X (.Try body [.ExceptHandler (some (.Name x np)) (some n) (b₀ :: suite) pos'] [] [] pos) (fun D σ H => tb (wKeep X.K c i X.N.length ts D) D σ H) := by
  refine ⟨fun pins s σ H D I h => ?_⟩
  have ok := I.ok
  have hfr : X.A.frames = some (X.env :: X.outer) := by rw [ok.frames, hs]
  have hloc : Loc X.env.scope n := .inl hln
  refine wpAny_Try_except ?_
  refine wpAny_mono ((hb (wKeep X.K c i X.N.length ts D) (X.pn ++ pins) (fun e s₁ => wpAny (model X.prog X.w) X.A (noteFrame e X.env) (fun _ s₂ => wpAny (model X.prog X.w) X.A (setFlight e none) (fun _ s₃ =>
    wpAny (model X.prog X.w) X.A (handleBy e X.env [.ExceptHandler (some (.Name x np)) (some n) (b₀ :: suite) pos']) (SP X pins D) X.xe s₃) X.xe s₂) X.xe s₁) (fun u s' xx => ?_) PassesOwn.looking).run [] s σ H D (I.toTry _) h) (fun f s1 hsp => ?_) (fun e s1 he => he)
  · obtain ⟨a, B, sI, pins', σ', H', cls, d, rfl, J', nb, up, sky, na, os, ag, hb1, hyes⟩ := xx
    have J : Inv X pins σ' H' sI := J'.ofTry ok
    have sky' : Sky B (X.env :: X.outer) a (Zc cls d) X.env.locals s'.heap := by rw [← hs]; exact sky
    show wpAny (model X.prog X.w) X.A (noteFrame (.ref a) X.env) _ _ _
    refine Sky.land Zc.steady hfr hf sky' fun h3 fl3 up3 => ?_
    have J3 : Inv X pins σ' H' { s' with heap := h3 } := J.landed nb fl3.1 (up.trans up3) os ag
    obtain ⟨oe3, vs3, he3, hz3, hd3⟩ := fl3.there
    have nB : B.get? a = none := fl3.2.1
    have notFr : ∀ {h : Heap} {o : Obj} {vs : Array Value}, h.FunFrames B (X.env :: X.outer) → h.get? a = some o → o.data = .fields vs → a ∉ frs (X.env :: X.outer) := fun {h o vs} ff e dd hm => by
      obtain ⟨_, o', e', hnf⟩ := ff.mem hm
      rw [e] at e'; cases e'
      exact hnf _ dd
    have nfr := notFr fl3.2.2.1 he3 hd3
    have nL : a ≠ X.env.locals := fun z => nfr (List.mem_filterMap.mpr ⟨X.env, List.mem_cons_self, by rw [hf, z]⟩)
    have nF : a ∉ X.fs := fun hm => by
      obtain ⟨e, he, q⟩ := List.mem_filterMap.mp hm
      exact nfr (List.mem_filterMap.mpr ⟨e, List.mem_cons_of_mem _ he, q⟩)
    have nI : ∀ o, sI.heap.get? a = some o → False := fun o e => by
      have z := nb a o e (by rw [hs]; exact nfr)
      rw [nB] at z; cases z
    have n0 : ∀ o, X.s_0.heap.get? a = some o → a ∈ X.ex := fun o e => by
      by_cases q : a ∈ X.ex
      · exact q
      · obtain ⟨o', e'⟩ := J.base.there a o e q
        exact (nI _ e').elim
    have np_ : ∀ p ∈ X.pn ++ pins, p.1 ≠ a := fun p hp z => nI _ (z ▸ (J.pin p hp).1)
    have S3 := J3.suite he3 hd3 na nL nF
    refine wpAny_handleBy_cons (codeAny_handlers_test ?_) (by intro q; cases q)
    have LT : PySem.W.Looks (model X.prog X.w) h3 (typeOf (.ref a)) cls := fun A Q E s k q => wpAny_typeOf_ref (k _ _ he3) (by rw [hz3.1]; exact q)
    have LM := PySem.W.exm_one (M := model X.prog X.w) (J3.kIn) LT hb1
    have test : ∀ {Q : Value → Shared → Prop} {E : Value → Shared → Prop}, Q c { s' with heap := h3 } → wpAny (model X.prog X.w) (X.A.mark (some (.ref a))) (eval (.Name x np) X.env) Q E { s' with heap := h3 } := fun {Q E} q => by
      obtain ⟨hg, hdbg, hm | ⟨hm, hv, hnn⟩⟩ := hc
      · exact ld_glob (X := X.suite a ((a, oe3) :: (X.pn ++ pins))) S3 hg hm q hdbg
      · exact ld_blt (X := X.suite a ((a, oe3) :: (X.pn ++ pins))) S3 hg hm hv q hnn hdbg
    refine test (LM.here ?_)
    refine codeAny_handlers_suite_as ?_
    refine HandSPX.lands_againZ fl3 fun h4 fl4 up4 => ?_
    have J4 : Inv X pins σ' H' { s' with heap := h4 } := J.landed nb fl4.1 ((up.trans up3).trans up4) os ag
    obtain ⟨oe4, vs4, he4, hz4, hd4⟩ := fl4.there
    have S4 := J4.suite he4 hd4 na nL nF
    refine store_ok (X := X.suite a ((a, oe4) :: (X.pn ++ pins))) (v := .ref a) S4 hN hi hloc rfl (fun s5 S5 => ?_) (.inr hln)
    refine wpAny_mono ((hsu a oe4 cls d (X.pn ++ pins) hz4 ⟨_, hd4⟩).run [] s5 _ H' _ S5 (hyes J.len a na)) (fun f s6 hsp => ?_) (fun _ _ z => False.elim z)
    cases f with
    | next =>
      obtain ⟨σ6, H6, S6, q6⟩ := hsp
      obtain ⟨g1, g2, g3, g4, _⟩ := S6.pin (a, oe4) (List.mem_append_left _ List.mem_cons_self)
      have J6 : Inv X pins σ6 H6 s6 := S6.unsuite ok
      have J7 := Inv.adopt (cls := cls) (d := d) J6 g1 hz4 hd4 g2 g3 n0 np_
      exact gone_ok J7 hN hi hln fun s7 J8 => ⟨_, _, J8, q6⟩
    | brk => obtain ⟨σ6, H6, S6, q6⟩ := hsp; exact q6.elim
    | cont => obtain ⟨σ6, H6, S6, q6⟩ := hsp; exact q6.elim
    | ret u => obtain ⟨v6, σ6, H6, S6, r6, q6⟩ := hsp; exact q6.elim
  · cases f with
    | next =>
      obtain ⟨σ', H', J', q⟩ := hsp
      exact wpAny_execs_nil ⟨σ', H', J'.ofTry ok, q⟩
    | brk =>
      obtain ⟨σ', H', J', q⟩ := hsp
      exact ⟨σ', H', J'.ofTry ok, q⟩
    | cont =>
      obtain ⟨σ', H', J', q⟩ := hsp
      exact ⟨σ', H', J'.ofTry ok, q⟩
    | ret u =>
      obtain ⟨v, σ', H', J', r, q⟩ := hsp
      exact ⟨v, σ', H', J'.ofTry ok, r, q⟩
end

/-! ### x = None; try: a() / except e as n: x = n; return x -/
def TTc (K : PySem.W.Frag) (E : Addr) : (XK → Hp → VK → Prop) → Hp → VK → Prop := fun tl H Q =>
  tl (fun cls d H' => PySem.W.exmOne K cls (.ref E) = some true ∧ ∀ a, H' a = none → Q (.ref a) (upd H' a (excO a cls d))) H (fun _ H' => Q .non H')
section
variable {X : Cx}
theorem caught_gives {x a r e q y : Str} {sg : Scope} {g CS : Addr} {cdg : Value} {j : Nat} {p0 p1 p2 p3 p4 p5 p6 p7 p8 p9 p10 p11 p12 p13 : Pos}
    (hN : ([a, r, e] : List Str).Nodup) (hge : sg.names.lookup y = some .globalImplicit) (hme : X.mg y = some (.ref CS)) (hde : (y == ("__debug__" : Str)) = false)
    (hr : sg.names.lookup r = some .local) (he : sg.names.lookup e = some .local) (hrd : (r == ("__debug__" : Str)) = false) (hrc : (r == ("__classdict__" : Str)) = false) (hed : (e == ("__debug__" : Str)) = false) (hec : (e == ("__classdict__" : Str)) = false) :
    LamX.GivesTo X [a, r, e] x sg g cdg [.Assign [.Name r p0] (.Constant .none j p1) p2, .Try [.Expr (.Call (.Name a p3) [] [] p4) p5] [.ExceptHandler (some (.Name y p6)) (some e) [.Assign [.Name r p7] (.Name e p8) p9] p10] [] [] p11, .Return (some (.Name r p12)) p13] a q (TTc X.K CS) := by
  intro f c' s H Q tl act hc h
  have hgl : Gl (cxOf C8.CX0 X.prog X.w X.K X.mg X.base [a, r, e] x sg g cdg X.A X.stack s H C8.E0).nox y := hge
  refine ⟨_, pss_cons (ps_set (X := (cxOf C8.CX0 X.prog X.w X.K X.mg X.base [a, r, e] x sg g cdg X.A X.stack s H C8.E0).nox) (i := 1) hN rfl (.inl hr) pe_non rfl (.inr hr))
    (pss_cons (ps_try_keep (X := (cxOf C8.CX0 X.prog X.w X.K X.mg X.base [a, r, e] x sg g cdg X.A X.stack s H C8.E0).nox) (i := 2) (c := .ref CS)
      (tb := fun W D σ H => ∃ Ech : XK, (∀ cls d σ' H', Ech cls d H' → W cls d σ' H') ∧ σ[0]? = some (some (.ref f)) ∧ H c' = some (LamX.CodeO c' q) ∧ tl Ech H fun _ H1 => D.nx σ H1)
      (ts := fun a cls d => tAsg (tVar 2) (gName 1))
      rfl rfl hN rfl he ⟨hgl, hde, .inl hme⟩ (fun W pn xe tk _ => ?_) (fun a oe cls d pn _ _ => pss_one (ps_set (i := 1) hN rfl (.inl hr) (pe_var (i := 2) rfl (.inl he) hed hec) rfl (.inr hr))))
    (pss_one (ps_ret (pe_var (i := 1) rfl (.inl hr) hrd hrc)))), ?_⟩
  · refine ⟨fun pins s' σ H' D I h' => ?_⟩
    obtain ⟨Ech, hW, h1, h2, h3⟩ := h'
    have hp := act W pn xe Ech p3 p4 tk hW
    have hq := pss_one (ps_expr (pos := p5) hp)
    exact hq.run pins s' σ H' D I ⟨h1, h2, h3⟩
  · refine ⟨fun cls d H' => PySem.W.exmOne X.K cls (.ref CS) = some true ∧ ∀ a, H' a = none → Q (.ref a) (upd H' a (excO a cls d)), fun cls d σ' H' hw => ?_, rfl, hc, ?_⟩
    · refine ⟨hw.1, fun hl b hb => ?_⟩
      refine ⟨.ref b, ?_, ?_⟩
      · exact List.getElem?_set_self (by rw [hl]; exact Nat.lt_succ_self 2)
      · refine ⟨.ref b, ?_, hw.2 b hb⟩
        rw [List.getElem?_set_ne (by decide), List.getElem?_set_self (by rw [List.length_set, hl]; exact Nat.lt_succ_of_lt (Nat.lt_succ_self 1))]
    · have z : ∀ H1 : Hp, ({ nx := tRet (tVar 1) { nx := fun _ H' => Q V.non H', rt := Q }, rt := Q } : Ends).nx (List.set (L2.start [a, r, e] [V.ref f]) 1 (some V.non)) H1 = (∃ v, (List.set (L2.start [a, r, e] [V.ref f]) 1 (some V.non))[1]? = some (some v) ∧ Q v H1) := fun _ => rfl
      refine (?_ : tl _ H _)
      have e2 : (fun (_ : V) H1 => Q .non H1) = fun (_ : V) H1 => ({ nx := tRet (tVar 1) { nx := fun _ H' => Q V.non H', rt := Q }, rt := Q } : Ends).nx (List.set (L2.start [a, r, e] [V.ref f]) 1 (some V.non)) H1 := by
        funext _ H1
        rw [z]
        exact propext ⟨fun q => ⟨.non, rfl, q⟩, fun ⟨v, e3, q⟩ => by cases e3; exact q⟩
      have h' : tl (fun cls d H' => PySem.W.exmOne X.K cls (.ref CS) = some true ∧ ∀ a, H' a = none → Q (.ref a) (upd H' a (excO a cls d))) H (fun (_ : V) H1 => Q .non H1) := h
      rw [e2] at h'
      exact h'
end
end Q

set_option linter.all false
set_option maxRecDepth 100000
set_option maxHeartbeats 800000
namespace Q
open PySem PySem.Spec PyProof.Rows L2

/-! ### caught(lambda: e) -/
theorem obr_monoN {K : PySem.W.Frag} {mg : Str → Option Value} {H H' : Hp} {μ μ' : Nat → Addr} {N N' : Nat} {a : Addr} {ob : Ob} (e : Ext H μ N H' μ' N') (ha : ∀ o, H a = some o → (∀ ps, o ≠ .tbl ps) → H' a = some o) (h : ObR K mg H μ N a ob) : ObR K mg H' μ' N' a ob := by
  match ob, h with
  | .non, _ => trivial
  | .lst xs, ⟨vs, h1, h2⟩ => exact ⟨vs, ha _ h1 (fun _ z => by cases z), h2.ext e⟩
  | .ro xs, ⟨vs, h1, h2⟩ => exact ⟨vs, h1.imp (fun ⟨o, q⟩ => ⟨o, ha _ q (fun _ z => by cases z)⟩) id, h2.ext e⟩
  | .dic false kvs, ⟨vs, h1, h2⟩ => exact ⟨vs, ha _ h1 (fun _ z => by cases z), h2.ext e⟩
  | .dic true kvs, ⟨o, vs, h1, h2⟩ => exact ⟨o, vs, ha _ h1 (fun _ z => by cases z), h2.ext e⟩
  | .ins c fs, ⟨C, dx, vs, h0, h1, h2⟩ => exact ⟨C, dx, vs, h0, ha _ h1 (fun _ z => by cases z), h2.ext e⟩
section
variable {K : PySem.W.Frag} {mg : Str → Option Value} {T : Tb} {H H1 : Hp} {μ : Nat → Addr} {S : Sto}
theorem ext_extN (e : LamX.ExtN H H1) (N : Nat) : Ext H μ N H1 μ N :=
  ⟨fun b _ h => e b _ h (fun _ z => by cases z), fun b _ _ h => e b _ h (fun _ z => by cases z), fun b _ h => e b _ h (fun _ z => by cases z), Nat.le_refl _, fun _ _ => rfl⟩
theorem SRel.extN (r : SRel K mg T H μ S) (e : LamX.ExtN H H1) (t : LamX.Tabs T H1) : SRel K mg T H1 μ S :=
  ⟨fun n hn => obr_monoN (ext_extN e _) (fun o h z => e _ o h z) (r.at_ n hn), r.inj, t⟩
end
def mCaught (cs : List Str) (f : En → M Vl) : En → M Vl := fun ρ S => match f ρ S with
  | some (.ok _, S') => some (.ok .non, S')
  | some (.exc c g v, S') => if c ∈ cs then (match v with
    | .non => if g = "" then some (.ok (.exc c "" .non), S') else none
    | _ => none) else none
  | none => none
/-- what the def that catches is -/
structure CaughtS (K : PySem.W.Frag) (mg : Str → Option Value) (x : Str) (cs : List Str) : Prop where
  ex : ∃ (g CS : Addr) (a r e y : Str) (pg : Arguments) (sg : Scope) (dV kV doc pm cdv ct oc : Value) (an od : Option Addr) (osl : Array (Option Value)) (j : Nat) (p0 p1 p2 p3 p4 p5 p6 p7 p8 p9 p10 p11 p12 p13 : Pos) (bg : List Stmt),
    bg = [.Assign [.Name r p0] (.Constant .none j p1) p2, .Try [.Expr (.Call (.Name a p3) [] [] p4) p5] [.ExceptHandler (some (.Name y p6)) (some e) [.Assign [.Name r p7] (.Name e p8) p9] p10] [] [] p11, .Return (some (.Name r p12)) p13] ∧
    mg x = some (.ref g) ∧ PySem.W.keepIn K (.ref g) = true ∧ K.lookup g = some ⟨oc, od, .func (PySem.W.fnOf x x pg bg sg dV kV doc pm an cdv ct), osl⟩ ∧ PySem.W.codeIn K cdv x = true ∧
    L2.Binds K (PySem.W.fnOf x x pg bg sg dV kV doc pm an cdv ct) [a] [] ∧ FnScope [a, r, e] [a] sg ∧ Vis sg a ∧ ([a, r, e] : List Str).Nodup ∧ sg.names.lookup y = some .globalImplicit ∧ mg y = some (.ref CS) ∧ (y == ("__debug__" : Str)) = false ∧
    sg.names.lookup r = some .local ∧ sg.names.lookup e = some .local ∧ (r == ("__debug__" : Str)) = false ∧ (r == ("__classdict__" : Str)) = false ∧ (e == ("__debug__" : Str)) = false ∧ (e == ("__classdict__" : Str)) = false ∧ (a == ("__debug__" : Str)) = false ∧ (a == ("__classdict__" : Str)) = false ∧ (x == ("__debug__" : Str)) = false ∧
    ∀ c ∈ cs, ∀ C, mg c = some (.ref C) → PySem.W.exmOne K (.ref C) (.ref CS) = some true
/-- what the making of lambdas asks of the context -/
structure Maker (X : Cx) (T : Tb) : Prop where
  ex : ∃ c P : Addr, LamX.TabB X.base X.mg c P ∧ X.env.code = .ref c ∧ (P, X.env.qual ++ "<lambda>") ∈ T ∧ ∀ p ∈ T, p.1 = P → p.2 = X.env.qual ++ "<lambda>"
section
variable {X : Cx} {T : Tb} {W : WX} {k : Nat} {x : Str} {p lpos pos : Pos} {params : Arguments} {body : Expr} {scope : Scope} {f : En → M Vl} {cs : List Str}
theorem fcx_lam {A : Around} {outer : List Env} {s : Shared} {H : Hp} {E : XK} {fa c' : Addr} (hr : Room k (LamX.lamCx X A outer s H E scope fa c').A) (nd : X.N.Nodup) : FCx false (LamX.lamCx X A outer s H E scope fa c') (fun cls d _ H' => E cls d H') k :=
  ⟨(fun z => by cases z), hr, takes_of rfl rfl rfl rfl, passes_of rfl, rfl, nd⟩
theorem se_caught (C : CaughtS X.K X.mg x cs) (m : Maker X T) (hr : Room (k + 2) X.A) (nd : X.N.Nodup)
    (hb : ∀ (A : Around) (outer : List Env) (s : Shared) (H : Hp) (E : XK) (fa c' : Addr), FCx false (LamX.lamCx X A outer s H E scope fa c') (fun cls d _ H' => E cls d H') k → SE (LamX.lamCx X A outer s H E scope fa c') T (fun cls d _ H' => E cls d H') body f)
    (L : LamX.LamS X.env.scope scope) (hg : Gl X x := by rfl) (hdef : defaultsOf params X.env = ([], []) := by rfl)
    (hbind : ∀ (q : Str) (cl : List (Str × Addr)) (pm cv ctv : Value), bindArgs (PySem.W.kla_fn "<lambda>" q params body scope cl pm cv ctv) ⟨[], []⟩ = pure [] := by intros; rfl) :
    SE X T W (.Call (.Name x p) [.Lambda params body scope lpos] [] pos) (mCaught cs f) := by
  obtain ⟨g, CS, a, r, e, y, pg, sg, dV, kV, doc, pm, cdv, ct, oc, an, od, osl, j, p0, p1, p2, p3, p4, p5, p6, p7, p8, p9, p10, p11, p12, p13, bg, rfl, hm, hk, lk, hcg, hbi, Sg, hva, hN, hge, hme, hde, hr1, he1, hrd, hrc, hed, hec, had, hac, hxd, hcs⟩ := C.ex
  obtain ⟨c, P, TB, hcode, hmT, hu⟩ := m.ex
  refine PE.imp (LamX.pe_lamcall (t := fun E => tOf X.K X.mg T (fun cls d _ H' => E cls d H') f) hg hm hk lk hcg hbi Sg rfl hva (caught_gives hN hge hme hde hr1 he1 hrd hrc hed hec) TB hcode hmT hu hr L hdef hbind
    (fun A outer s H E fa c' hr2 => hb A outer s H E fa c' (fcx_lam hr2 nd)) hxd had hac) fun σ H Q h => ?_
  obtain ⟨ρ, μ, S, sr, er, h⟩ := h
  refine ⟨sr.tab, fun H1 eN T1 => ?_⟩
  have ex := ext_extN (μ := μ) eN S.n
  refine ⟨ρ, μ, S, sr.extN eN T1, er.ext ex, ?_⟩
  unfold mCaught at h
  cases e1 : f ρ S with
  | none => rw [e1] at h; exact h
  | some q =>
    obtain ⟨o, S'⟩ := q
    rw [e1] at h
    cases o with
    | ok v => exact fun H' μ' x' e' sr' _ => h H' μ' .non (ex.trans e') sr' .non
    | exc c gg v =>
      simp only at h
      by_cases hc : c ∈ cs
      · rw [if_pos hc] at h
        cases v with
        | non =>
          simp only at h
          by_cases hgg : gg = ""
          · rw [if_pos hgg] at h
            intro H' μ' cls d e' sr' xr
            obtain ⟨C0, hC, rfl, hd⟩ := xr
            refine ⟨hcs c hc C0 hC, fun b hb => ?_⟩
            have e2 : Ext H' μ' S'.n (upd H' b (excO b (.ref C0) d)) μ' S'.n := ext_upd hb _
            refine h _ μ' _ ((ex.trans e').trans e2) (sr'.laid hb) ?_
            rcases hd with ⟨_, rfl⟩ | z
            · exact .exc c hC upd_same
            · exact z.elim
          · rw [if_neg hgg] at h; exact h.elim
        | _ => exact h.elim
      · rw [if_neg hc] at h; exact h.elim
end

/-! ### isinstance with the own classes -/
def bIsE (sub : List (Str × Str)) (ok : List Str) : List Vl → MO Vl := fun as S => match as with
  | [.exc c _ _, .gl d] => if c ∈ ok ∧ d ∈ ok then some (.bl (decide ((c, d) ∈ sub)), S) else none
  | [v, .gl d] => (match tyN S v with | some _ => if d ∈ ok then some (.bl false, S) else none | none => none)
  | as => bIsi as S
theorem bIsE_eq {sub : List (Str × Str)} {ok : List Str} {as : List Vl} {S : Sto} {p : Vl × Sto} (h : bIsE sub ok as S = some p) :
    (∃ c g v d, as = [.exc c g v, .gl d] ∧ c ∈ ok ∧ d ∈ ok ∧ p = (.bl (decide ((c, d) ∈ sub)), S)) ∨ (∃ v d a, as = [v, .gl d] ∧ tyN S v = some a ∧ d ∈ ok ∧ p = (.bl false, S)) ∨ bIsi as S = some p := by
  unfold bIsE at h
  split at h
  · rename_i c g v d
    by_cases hok : c ∈ ok ∧ d ∈ ok
    · rw [if_pos hok] at h; cases h; exact .inl ⟨c, g, v, d, rfl, hok.1, hok.2, rfl⟩
    · rw [if_neg hok] at h; cases h
  · rename_i v d _
    cases ht : tyN S v with
    | none => rw [ht] at h; cases h
    | some a =>
      rw [ht] at h
      simp only at h
      by_cases hok : d ∈ ok
      · rw [if_pos hok] at h; cases h; exact .inr (.inl ⟨v, d, a, rfl, ht, hok, rfl⟩)
      · rw [if_neg hok] at h; cases h
  · exact .inr (.inr h)
structure ExcCs (K : PySem.W.Frag) (mg : Str → Option Value) (sub : List (Str × Str)) (ok : List Str) : Prop where
  c : ∀ c ∈ ok, ∀ C, mg c = some (.ref C) → ExcC K C
  s : ∀ c ∈ ok, ∀ d ∈ ok, ∀ C D, mg c = some (.ref C) → mg d = some (.ref D) → PySem.W.kitOne K (.ref C) (.ref D) = some (decide ((c, d) ∈ sub))
  t : ∀ d ∈ ok, ∀ D, mg d = some (.ref D) → ∀ a ∈ tyNs, PySem.W.kitOne K (.type a) (.ref D) = some false
section
variable {X : Cx} {T : Tb} {sub : List (Str × Str)} {ok : List Str}
theorem cs_isE (C : ExcCs X.K X.mg sub ok) : CaS X T (.builtin "isinstance") (bIsE sub ok) := by
  intro pins s σ H xs us Q I rs h
  have h0 := h
  obtain ⟨μ, S, as, sr, ra, h⟩ := h
  obtain ⟨p, e⟩ := h.some_
  rcases bIsE_eq e with ⟨c, g, v, d, rfl, hc, hd, rfl⟩ | ⟨v, d, a, rfl, ht, hok, rfl⟩ | e2
  · rw [e] at h
    cases ra with
    | cons r1 r2 =>
      cases r2 with
      | cons r2 r3 =>
        cases r3
        cases r1 with
        | @exc c a C0 hC hH =>
        cases r2 with
        | @gl d D hD =>
        obtain ⟨u, w', rfl, ru, rw'⟩ := vals2 rs
        cases rw'
        obtain rfl : u = Value.ref a := ru
        obtain ⟨⟨oe, vs, he, hz, hdd⟩, _, _⟩ := I.hok a _ hH
        have J : PySem.W.InstAt s.heap a oe C0 none := by
          obtain ⟨oc, od, oda, osl⟩ := oe
          obtain ⟨h1, h2⟩ := hz
          dsimp only at h1 h2 hdd
          subst h1 h2 hdd
          exact ⟨he, rfl, rfl, trivial⟩
        have EC := C.c c hc C0 hC
        exact PySem.W.kia_one (PySem.W.handS_kitx_exc EC.hg EC.hk EC.hs EC.hd EC.ha EC.hn EC.ht EC.hm) I.kIn J (C.s c hc d hd C0 D hC hD) (fun z => nomatch z) fun tk => ⟨.bl _, H, I.kept (t' := tk) fun _ _ z => z, rfl, PstO.here h sr (.bl _)⟩
  · rw [e] at h
    cases ra with
    | cons r1 r2 =>
      cases r2 with
      | cons r2 r3 =>
        cases r3
        cases r2 with
        | @gl d D hD =>
        obtain ⟨ty, ha⟩ := tyN_at sr r1 ht
        exact call_isi pins s σ H _ us Q I rs ⟨_, _, _, _, _, rfl, .own D, ty, C.t d hok D hD a ha, PstO.here h sr (.bl _)⟩
  · rw [e, ← e2] at h
    exact cs_isi pins s σ H xs us Q I rs ⟨μ, S, _, sr, ra, h⟩
end
end Q

set_option linter.all false
set_option maxRecDepth 100000
set_option maxHeartbeats 800000
namespace Q
open PySem PySem.Spec PyProof.Rows L2

/-! ### slices -/
def tOfO (K : PySem.W.Frag) (mg : Str → Option Value) (T : Tb) (W : WX) (f : En → M (Option Int)) : TO := fun σ H Q => ∃ (ρ : En) (μ : Nat → Addr) (S : Sto), SRel K mg T H μ S ∧ ERel K mg H μ S.n ρ σ ∧ Pst K mg T (fun cls d H' => W cls d σ H') (fun _ _ _ (a b : Option Int) => a = b) H μ S.n Q (f ρ S)
abbrev SO (X : Cx) (T : Tb) (W : WX) (e : Option Expr) (f : En → M (Option Int)) : Prop := PO X e (tOfO X.K X.mg T W f)
def oNone : En → M (Option Int) := fun _ => ret none
def oSome (f : En → M Vl) : En → M (Option Int) := fun ρ => bnd (f ρ) fun v => match v with
  | .int i => ret (some i)
  | _ => fail
/-- the items from lo up to hi -/
def cutL {α : Type} (xs : List α) (lo hi : Option Int) : List α := (xs.drop (HT.sIx xs.length 0 lo)).take (HT.sIx xs.length xs.length hi - HT.sIx xs.length 0 lo)
def bSl (v : Vl) (lo hi : Option Int) : MO Vl := fun S => match v with
  | .tup xs => some (.tup (cutL xs lo hi), S)
  | .str z => if z.length ≤ sizeLine then some (.str (cutS z lo hi), S) else none
  | .ref n => match getR S n with
    | some xs => some (.ref S.n, S.push (.lst (cutL xs lo hi)))
    | none => none
  | _ => none
def mSl (f : En → M Vl) (fl fh : En → M (Option Int)) : En → M Vl := fun ρ => bnd (f ρ) fun v => bnd (fl ρ) fun lo => bnd (fh ρ) fun hi => lift (bSl v lo hi)
theorem cutL_all {α : Type} (xs : List α) {lo hi : Option Int} (h1 : HT.sIx xs.length 0 lo = 0) (h2 : HT.sIx xs.length xs.length hi = xs.length) : cutL xs lo hi = xs := by
  unfold cutL; rw [h1, h2]; simp
section
variable {K : PySem.W.Frag} {mg : Str → Option Value} {T : Tb} {H : Hp} {μ : Nat → Addr} {S : Sto} {N : Nat}
theorem RpAll.cut {xs : List Vl} {vs : List V} (h : RpAll K mg H μ N xs vs) (lo hi : Option Int) : RpAll K mg H μ N (cutL xs lo hi) (cutV vs lo hi) := by
  unfold cutL cutV
  rw [h.length]
  exact (h.drop _).take _
end
section
variable {X : Cx} {T : Tb} {W : WX} {pos p2 : Pos} {e : Expr} {lo hi : Option Expr} {f : En → M Vl} {fl fh : En → M (Option Int)}
theorem so_none : SO X T W none oNone := ⟨fun pins s σ H Q I ⟨ρ, μ, S, sr, er, h⟩ => po_none.run pins s σ H Q I (Pst.here (rel := fun _ _ _ (a b : Option Int) => a = b) h sr rfl)⟩
theorem so_some {e : Expr} (he : SE X T W e f) : SO X T W (some e) (oSome f) := ⟨fun pins s σ H Q I ⟨ρ, μ, S, sr, er, h⟩ => (po_some he).run pins s σ H Q I ⟨ρ, μ, S, sr, er, Pst.bnd_ h fun v S1 H1 μ1 x e1 sr1 rx h1 => by
  cases v with
  | int i => cases rx; exact ⟨i, rfl, Pst.here (rel := fun _ _ _ (a b : Option Int) => a = b) h1 sr1 rfl⟩
  | _ => exact h1.elim⟩⟩
def rSlQ (K : PySem.W.Frag) (mg : Str → Option Value) (T : Tb) : V → Option Int → Option Int → Hp → VK → Prop := fun x lo hi H Q => ∃ (μ : Nat → Addr) (S : Sto) (v : Vl), SRel K mg T H μ S ∧ Rp K mg H μ S.n v x ∧ PstO K mg T (rl K mg) H μ S.n Q (bSl v lo hi S)
theorem sl_q : SlR X (rSlQ X.K X.mg T) := by
  intro pins s σ H x v vl vu lo hi sl Q I rx hs pl pu h
  obtain ⟨μ, S, a, sr, ra, h⟩ := h
  cases a with
  | tup xs =>
    obtain ⟨p, vs, rfl, h1, h2⟩ := ra.tup_at
    refine sl_tupA pins s σ H _ v vl vu lo hi sl Q I rx hs pl pu ⟨p, vs, rfl, h1, fun hw => ?_, fun hw q hq => ?_⟩
    · have e : cutL xs lo hi = xs := cutL_all xs (by rw [h2.length]; exact hw.1) (by rw [h2.length]; exact hw.2)
      have h : PstO X.K X.mg T (rl X.K X.mg) H μ S.n Q (some (.tup (cutL xs lo hi), S)) := h
      rw [e] at h
      exact PstO.here h sr (.tup h1 h2)
    · exact fin_tup (show PstO X.K X.mg T (rl X.K X.mg) H μ S.n Q (some (.tup (cutL xs lo hi), S)) from h) sr (h2.cut lo hi) q hq
  | str z =>
    cases ra
    have h : PstO X.K X.mg T (rl X.K X.mg) H μ S.n Q (if z.length ≤ sizeLine then some (.str (cutS z lo hi), S) else none) := h
    by_cases hz : z.length ≤ sizeLine
    · rw [if_pos hz] at h
      exact sl_str pins s σ H _ v vl vu lo hi sl Q I rx hs pl pu ⟨z, rfl, hz, PstO.here h sr (.str _)⟩
    · rw [if_neg hz] at h; exact h.elim
  | ref n =>
    cases e : getR S n with
    | none => unfold bSl at h; simp only [e] at h; exact h.elim
    | some xs =>
      unfold bSl at h; simp only [e] at h
      obtain ⟨vs, rfl, h1, h2⟩ := ra.read_at sr e
      exact sl_list pins s σ H _ v vl vu lo hi sl Q I rx hs pl pu ⟨_, vs, rfl, h1, fun p hp => fin_lst h sr (h2.cut lo hi) p hp⟩
  | _ => exact h.elim
theorem se_sl (he : SE X T W e f) (hl : SO X T W lo fl) (hu : SO X T W hi fh) : SE X T W (.Subscript e (.Slice lo hi none p2) pos) (mSl f fl fh) := by
  refine PE.imp (pe_slice (sl_q (T := T)) he hl hu) fun σ H Q h => ?_
  obtain ⟨ρ, μ, S, sr, er, h⟩ := h
  refine ⟨ρ, μ, S, sr, er, Pst.bnd_ h fun v S1 H1 μ1 x e1 sr1 rx h1 => ?_⟩
  refine ⟨ρ, μ1, S1, sr1, er.ext e1, Pst.bnd_ h1 fun o S2 H2 μ2 o' e2 sr2 ro h2 => ?_⟩
  obtain rfl : o = o' := ro
  refine ⟨ρ, μ2, S2, sr2, (er.ext e1).ext e2, Pst.bnd_ h2 fun o2 S3 H3 μ3 o2' e3 sr3 ro h3 => ?_⟩
  obtain rfl : o2 = o2' := ro
  exact ⟨μ3, S3, v, sr3, (rx.ext e2).ext e3, h3.lift_⟩
end

/-! ### a local name that holds a def, called -/
def mCallS (i : Nat) (tbl : Str → Option (List Vl → M Vl)) (g : En → M (List Vl)) : En → M Vl := fun ρ => match ρ[i]? with
  | some (some (.gl d)) => (match tbl d with
    | some f => bnd (g ρ) f
    | none => fail)
  | _ => fail
section
variable {X : Cx} {T : Tb} {W : WX} {k : Nat} {x : Str} {p pos : Pos} {e : Expr} {es : List Expr} {g : En → M (List Vl)} {tbl : Str → Option (List Vl → M Vl)}
theorem se_callS (i : Nat) {b : Bool} (c : ∀ d f, tbl d = some f → CalS b X.prog X.w X.K X.mg T X.base k d [] f) (hr : Room k X.A) (hgd : b = true → X.A.guards = some []) (tk : Takes X W) (ha : SA X T W (e :: es) g) (hN : X.N[i]? = some x := by rfl)
    (hv : Vis X.env.scope x := by first | exact Or.inl rfl | exact Or.inr (Or.inl rfl) | exact Or.inr (Or.inr rfl)) (hd : (x == ("__debug__" : Str)) = false := by decide) (hcd : (x == ("__classdict__" : Str)) = false := by decide)
    (he : starEach (e :: es) X.env = (false, eval e X.env) :: starEach es X.env := by rfl) (hpl : (backTo pos (starEach es X.env)).any (·.1) = false := by rfl) : SE X T W (.Call (.Name x p) (e :: es) [] pos) (mCallS i tbl g) := by
  refine ⟨fun pins s σ H Q I h => ?_⟩
  obtain ⟨ρ, μ, S, sr, er, h⟩ := h
  unfold mCallS at h
  cases e1 : ρ[i]? with
  | none => rw [e1] at h; exact h.elim
  | some o =>
    rw [e1] at h
    match o, e1, h with
    | some (.gl d), e1, h =>
      simp only at h
      cases e2 : tbl d with
      | none => rw [e2] at h; exact h.elim
      | some f =>
        rw [e2] at h
        simp only at h
        obtain ⟨a, fd, ps, ds, dvV, hm, hk, F, hlen, hb, hdd, hdv⟩ := (c d f e2).ex
        obtain ⟨y, hy1, hy2⟩ := er.at_ i _ e1
        cases hy2 with
        | @gl _ a' hm' =>
        rw [hm] at hm'
        cases hm'
        refine wpAny_Call_Name_kw (thn ((pe_var (pos := p) (i := i) hN hv hd hcd).run pins s σ H (fun v H1 => v = .ref a ∧ H1 = H) I ⟨.ref a, hy1, rfl, rfl⟩) fun u s1 ⟨v, H1, I1, r1, ev, eH⟩ => ?_)
        subst ev
        rw [eH] at I1
        cases r1
        refine PySem.W.callWith_K (h₀ := X.base) I.ok.mod.kin hk (thn (ha.run pos pins s1 σ H (fun vs H1 => spF X.K X.mg T ps.length f (vs ++ dvV) H1 Q (WE W σ)) I1 ⟨ρ, μ, S, sr, er, Pst.bnd_ h fun v S1 H1 μ1 x e1 sr1 rx h1 => ?_⟩) fun us s1 ⟨vs, H1, I1, r, q⟩ => ⟨I1.kIn, ?_⟩) he hpl
        · have rr := RpAll.append rx (hdv H1 μ1 S1.n)
          rw [List.append_nil] at rr
          refine ⟨?_, μ1, S1, v, sr1, rr, h1⟩
          rw [← rr.length]
          by_cases hz : v.length = ps.length
          · exact hz
          · rw [hlen _ _ hz] at h1; exact h1.elim
        · exact run_fnD (E := WE W) F hr hgd hb hdd (passAt tk σ) I1 r q
    | some .non, _, h => exact h.elim
    | some (.bl _), _, h => exact h.elim
    | some (.int _), _, h => exact h.elim
    | some (.str _), _, h => exact h.elim
    | some (.tup _), _, h => exact h.elim
    | some (.ref _), _, h => exact h.elim
    | some (.ty _), _, h => exact h.elim
    | some (.exc _ _ _), _, h => exact h.elim
    | none, _, h => exact h.elim
end

/-! ### {k: v, ..} -/
def mPairs : List ((En → M Vl) × (En → M Vl)) → En → M (List (Vl × Vl))
  | [], _ => ret []
  | (fk, fv) :: r, ρ => bnd (fk ρ) fun k => bnd (fv ρ) fun v => bnd (mPairs r ρ) fun ps => ret ((k, v) :: ps)
def mergeD (kvs more : List (Vl × Vl)) : List (Vl × Vl) := more.foldl (fun acc kv => dPut acc kv.1 kv.2) kvs
def mDisp (ms : List ((En → M Vl) × (En → M Vl))) : En → M Vl := fun ρ S => bnd (mPairs ms ρ) (fun ps => lift fun S2 => match S2.at_ S.n with
  | .dic false [] => if ps.length ≤ 15 ∧ (ps.all fun p => (keyOf p.1).isSome) = true then some (.ref S.n, S2.set S.n (.dic false (mergeD [] ps))) else none
  | _ => none) (S.push (.dic false []))
section
variable {K : PySem.W.Frag} {mg : Str → Option Value} {T : Tb} {H : Hp} {μ : Nat → Addr} {S : Sto} {N : Nat}
def RpP (K : PySem.W.Frag) (mg : Str → Option Value) : Hp → (Nat → Addr) → Nat → List (Vl × Vl) → List (V × V) → Prop := fun H μ N xs vs => RpAll K mg H μ N (xs.map (·.1)) (vs.map (·.1)) ∧ RpAll K mg H μ N (xs.map (·.2)) (vs.map (·.2))
theorem RpP.ext {H' : Hp} {μ' : Nat → Addr} {N' : Nat} (e : Ext H μ N H' μ' N') {xs : List (Vl × Vl)} {vs : List (V × V)} (h : RpP K mg H μ N xs vs) : RpP K mg H' μ' N' xs vs := ⟨h.1.ext e, h.2.ext e⟩
theorem RpP.keys : ∀ {xs : List (Vl × Vl)} {vs : List (V × V)}, RpP K mg H μ N xs vs → (xs.all fun p => (keyOf p.1).isSome) = true → ∃ kvs : List (Key × V), vs = kvs.map (fun kv => (kV kv.1, kv.2)) ∧ RpK K mg H μ N xs kvs
  | [], [], _, _ => ⟨[], rfl, .nil⟩
  | [], _ :: _, h, _ => by cases h.1
  | _ :: _, [], h, _ => by cases h.1
  | (k, x) :: xs, (a, b) :: vs, h, hk => by
    obtain ⟨h1, h2⟩ := h
    cases h1 with
    | cons r1 t1 =>
    cases h2 with
    | cons r2 t2 =>
    rw [List.all_cons, Bool.and_eq_true] at hk
    obtain ⟨kvs, e, rk⟩ := RpP.keys ⟨t1, t2⟩ hk.2
    cases ek : keyOf k with
    | none => rw [ek] at hk; cases hk.1
    | some κ =>
      have e1 : a = kV κ := by
        cases k with
        | int i => cases ek; cases r1; rfl
        | str i => cases ek; cases r1; rfl
        | _ => cases ek
      exact ⟨(κ, b) :: kvs, by rw [e, e1]; rfl, .cons ek r2 rk⟩
theorem RpK.merge {xs : List (Vl × Vl)} {vs : List (Key × V)} (h : RpK K mg H μ N xs vs) : ∀ {ys : List (Vl × Vl)} {us : List (Key × V)}, RpK K mg H μ N ys us → RpK K mg H μ N (mergeD ys xs) (mergeK us vs) := by
  induction h with
  | nil => intro ys us h2; exact h2
  | cons hk rv _ ih => intro ys us h2; exact ih (RpK.put hk rv h2)
end
section
variable {X : Cx} {T : Tb} {W : WX} {pos : Pos} {keys : List (Option Expr)} {values : List Expr}
def tPs (K : PySem.W.Frag) (mg : Str → Option Value) (T : Tb) (W : WX) (ms : List ((En → M Vl) × (En → M Vl))) : List (TE × TE) := ms.map fun m => (tOf K mg T W m.1, tOf K mg T W m.2)
theorem tPairs_of : ∀ (ms : List ((En → M Vl) × (En → M Vl))) {σ : L2.St} {ρ : En} {H : Hp} {μ : Nat → Addr} {S : Sto} {Q : List (V × V) → Hp → Prop}, SRel X.K X.mg T H μ S → ERel X.K X.mg H μ S.n ρ σ →
    Pst X.K X.mg T (fun cls d H' => W cls d σ H') (RpP X.K X.mg) H μ S.n Q (mPairs ms ρ S) → tPairs (tPs X.K X.mg T W ms) σ H Q
  | [], _, _, _, _, _, _, sr, er, h => Pst.here (rel := RpP X.K X.mg) h sr ⟨.nil, .nil⟩
  | (fk, fv) :: r, σ, ρ, H, μ, S, Q, sr, er, h => by
    refine ⟨ρ, μ, S, sr, er, Pst.bnd_ (rel := rl X.K X.mg) h fun k S1 H1 μ1 x e1 sr1 rx h1 => ?_⟩
    refine ⟨ρ, μ1, S1, sr1, er.ext e1, Pst.bnd_ (rel := rl X.K X.mg) h1 fun v S2 H2 μ2 y e2 sr2 ry h2 => ?_⟩
    refine tPairs_of r sr2 ((er.ext e1).ext e2) (Pst.bnd_ (rel := RpP X.K X.mg) h2 fun ps S3 H3 μ3 zs e3 sr3 rz h3 => ?_)
    exact Pst.here (rel := RpP X.K X.mg) h3 sr3 ⟨.cons ((rx.ext e2).ext e3) rz.1, .cons (ry.ext e3) rz.2⟩
abbrev SPs (X : Cx) (T : Tb) (W : WX) (pos : Pos) (keys : List (Option Expr)) (values : List Expr) (ms : List ((En → M Vl) × (En → M Vl))) : Prop := PPs X pos keys values (tPs X.K X.mg T W ms)
theorem sps_nil : SPs X T W pos [] [] [] := pps_nil
theorem sps_cons {k v : Expr} {fk fv : En → M Vl} {ms : List ((En → M Vl) × (En → M Vl))} (hk : SE X T W k fk) (hv : SE X T W v fv) (hr : SPs X T W pos keys values ms) : SPs X T W pos (some k :: keys) (v :: values) ((fk, fv) :: ms) := pps_cons hk hv hr
theorem se_disp {ms : List ((En → M Vl) × (En → M Vl))} (h : SPs X T W pos keys values ms) (hall : keys.all (·.isSome) = true := by rfl) (hl : keys.length = values.length := by rfl) (h0 : keys ≠ [] := by exact List.cons_ne_nil _ _) (h15 : keys.length ≤ 15 := by decide) :
    SE X T W (.Dict keys values pos) (mDisp ms) := by
  refine PE.imp (pe_disp h hall hl h0 h15) fun σ H Q h => ?_
  obtain ⟨ρ, μ, S, sr, er, h⟩ := h
  intro p hp
  have e1 := ext_new (o := .dK []) (μ := μ) hp S.n (S.n + 1) (Nat.le_succ _)
  have sr1 := sr.push (ob := .dic false []) hp ⟨[], upd_same, .nil⟩
  refine tPairs_of (S := S.push (.dic false [])) ms sr1 (er.ext e1) (Pst.bnd_ (rel := RpP X.K X.mg) (Pst.step h e1) fun ps S2 H2 μ2 zs e2 sr2 rz h2 => ?_)
  have h2 := h2.lift_
  cases e3 : S2.at_ S.n with
  | dic lk kvs =>
    rw [e3] at h2
    match lk, kvs, e3, h2 with
    | false, [], e3, h2 =>
      simp only at h2
      have hn : S.n < S2.n := Nat.lt_of_lt_of_le (Nat.lt_succ_self _) e2.le
      have ep : μ2 S.n = p := by rw [e2.mu S.n (Nat.lt_succ_self _)]; exact mu1_same
      have ob := sr2.at_ S.n hn
      rw [e3, ep] at ob
      obtain ⟨vs, hv, rk0⟩ := ob
      cases rk0
      by_cases hz : ps.length ≤ 15 ∧ (ps.all fun p => (keyOf p.1).isSome) = true
      · rw [if_pos hz] at h2
        obtain ⟨kvs, ek, rk⟩ := rz.keys hz.2
        refine ⟨hv, kvs, ek, ?_, ?_⟩
        · have h3 := rz.1.length
          rw [List.length_map, List.length_map, ek, List.length_map] at h3
          omega
        · have wr := sr2.write (k := S.n) (o := .dK (mergeK [] kvs)) (ob := .dic false (mergeD [] ps)) hn (by rw [e3]; rfl) rfl (by rw [ep, hv]; intro _ z; cases z) (by rw [ep, hv]; intro _ _ z; cases z) (by rw [ep, hv]; intro _ z; cases z) (by rw [ep, hv]; intro _ z; cases z) (fun ew => ⟨_, upd_same, (rk.merge .nil).ext ew⟩)
          rw [ep] at wr
          have rr : Rp X.K X.mg (upd H2 p (.dK (mergeK [] kvs))) μ2 S2.n (.ref S.n) (.ref p) := by
            have := Rp.ref (K := X.K) (mg := X.mg) (H := upd H2 p (.dK (mergeK [] kvs))) (μ := μ2) (N := S2.n) S.n hn
            rw [ep] at this; exact this
          exact h2 _ μ2 (.ref p) wr.2 wr.1 rr
      · rw [if_neg hz] at h2; exact h2.elim
    | true, _, _, h2 => exact h2.elim
    | false, _ :: _, _, h2 => exact h2.elim
  | _ => rw [e3] at h2; exact h2.elim
theorem se_dict0 : SE X T W (.Dict [] [] pos) (fun _ => lift fun S => some (.ref S.n, S.push (.dic false []))) := by
  refine PE.imp pe_dnewK fun σ H Q h => ?_
  obtain ⟨ρ, μ, S, sr, er, h⟩ := h
  have h := h.lift_
  intro p hp
  have e1 := ext_new (o := .dK []) (μ := μ) hp S.n (S.n + 1) (Nat.le_succ _)
  have sr1 := sr.push (ob := .dic false []) hp ⟨[], upd_same, .nil⟩
  have rr : Rp X.K X.mg (upd H p (.dK [])) (mu1 μ S.n p) (S.n + 1) (.ref S.n) (.ref p) := by
    have := Rp.ref (K := X.K) (mg := X.mg) (H := upd H p (.dK [])) (μ := mu1 μ S.n p) (N := S.n + 1) S.n (Nat.lt_succ_self _)
    rw [mu1_same] at this; exact this
  exact h _ _ _ e1 sr1 rr
end

/-! ### str(int), min and max of two, text methods -/
def bStr : List Vl → MO Vl := fun as S => match as with
  | [.int i] => if i.natAbs.log2 < 1920 then some (.str (toString i), S) else none
  | _ => none
def bMin2 : List Vl → MO Vl := fun as S => match as with
  | [.int i, .int j] => some (.int (if j < i then j else i), S)
  | _ => none
def bMax2 : List Vl → MO Vl := fun as S => match as with
  | [.int i, .int j] => some (.int (if j > i then j else i), S)
  | _ => none
def mtUpper : Vl → List Vl → MO Vl := fun o as S => match o, as with
  | .str z, [] => if z.length ≤ 5592405 then some (.str (Txt.upper z), S) else none
  | _, _ => none
section
variable {X : Cx} {T : Tb}
theorem cs_str : CaS X T (.type "str") bStr := by
  intro pins s σ H xs us Q I rs h
  obtain ⟨μ, S, as, sr, ra, h⟩ := h
  obtain ⟨p, e⟩ := h.some_
  rw [e] at h
  unfold bStr at e
  split at e
  · rename_i i
    by_cases hz : i.natAbs.log2 < 1920
    · rw [if_pos hz] at e; cases e
      cases ra with
      | cons r1 r2 =>
      cases r2; cases r1
      exact call_str_int pins s σ H _ us Q I rs ⟨i, rfl, hz, PstO.here h sr (.str _)⟩
    · rw [if_neg hz] at e; cases e
  · cases e
theorem cs_min2 (hc : X.calm = true) : CaS X T (.builtin "min") bMin2 := by
  intro pins s σ H xs us Q I rs h
  obtain ⟨μ, S, as, sr, ra, h⟩ := h
  obtain ⟨p, e⟩ := h.some_
  rw [e] at h
  unfold bMin2 at e
  split at e
  · rename_i i j
    cases e
    cases ra with
    | cons r1 r2 =>
    cases r2 with
    | cons r2 r3 =>
    cases r3; cases r1; cases r2
    exact call_min2 hc pins s σ H _ us Q I rs ⟨i, j, rfl, PstO.here h sr (.int _)⟩
  · cases e
theorem cs_max2 (hc : X.calm = true) : CaS X T (.builtin "max") bMax2 := by
  intro pins s σ H xs us Q I rs h
  obtain ⟨μ, S, as, sr, ra, h⟩ := h
  obtain ⟨p, e⟩ := h.some_
  rw [e] at h
  unfold bMax2 at e
  split at e
  · rename_i i j
    cases e
    cases ra with
    | cons r1 r2 =>
    cases r2 with
    | cons r2 r3 =>
    cases r3; cases r1; cases r2
    exact call_max2 hc pins s σ H _ us Q I rs ⟨i, j, rfl, PstO.here h sr (.int _)⟩
  · cases e
end
end Q

set_option linter.all false
set_option maxRecDepth 100000
set_option maxHeartbeats 800000
namespace Q
open PySem PySem.Spec PyProof.Rows L2

/-! ### o[::-1] -/
def revS (z : Str) : Str := ⟨(((List.range z.length).map fun k => z.length - 1 - k).filterMap (z.cps[·]?)).toArray⟩
def bRev (v : Vl) : MO Vl := fun S => match v with
  | .tup xs => some (.tup xs.reverse, S)
  | .str z => if z.length ≤ sizeLine then some (.str (revS z), S) else none
  | .ref n => match getR S n with
    | some xs => some (.ref S.n, S.push (.lst xs.reverse))
    | none => none
  | _ => none
def mRev (f : En → M Vl) : En → M Vl := fun ρ => bnd (f ρ) fun v => lift (bRev v)
theorem rev_at {α : Type} (xs : Array α) : (List.range xs.size).filterMap (fun (m : Nat) => xs[(((xs.size : Int) - 1) + (m : Int) * (-1)).toNat]?) = xs.toList.reverse := by
  have e : (List.range xs.size).filterMap (fun (m : Nat) => xs[(((xs.size : Int) - 1) + (m : Int) * (-1)).toNat]?) = (List.range xs.size).filterMap (fun m => xs[xs.size - 1 - m]?) :=
    filterMap_congr' fun m hm => by
      have hm := List.mem_range.mp hm
      have : (((xs.size : Int) - 1) + (m : Int) * (-1)).toNat = xs.size - 1 - m := by omega
      rw [this]
  rw [e]
  have h := PySem.W.krv_all xs
  have e2 : (List.range xs.size).filterMap (fun m => xs[xs.size - 1 - m]?) = ((List.range xs.size).map fun k => xs.size - 1 - k).filterMap (xs[·]?) := by rw [List.filterMap_map]; rfl
  rw [e2, PySem.W.krv_range, ← h, List.filterMap_reverse]
where
  filterMap_congr' {β : Type} {l : List Nat} {f g : Nat → Option β} (h : ∀ m ∈ l, f m = g m) : l.filterMap f = l.filterMap g := by
    induction l with
    | nil => rfl
    | cons a l ih => simp only [List.filterMap_cons]; rw [h a List.mem_cons_self, ih fun m hm => h m (List.mem_cons_of_mem _ hm)]
section
variable {prog : Program} {w : World} {A : Around} {E : Value → Shared → Prop} {s : Shared}
theorem applied_rev {sl : Addr} {vl vu vs : Value} {n : Nat} {R : Int × Int × Nat → Shared → Prop} (hs : s.heap.IsSliceOf sl vl vu vs) (pl : IsPart vl none) (pu : IsPart vu none) (ps : IsPart vs (some (-1))) (h : R ((n : Int) - 1, -1, n) s) :
    wpAny (model prog w) A (Builtin.Slice.sliceApplied (.ref sl) (pure (n : Int))) R E s := by
  obtain ⟨os, hos, hcs, hds⟩ := id hs
  unfold Builtin.Slice.sliceApplied Builtin.Slice.sliceFields
  refine wpAny_bind (wpAny_bind (wpAny_field hos hds (x := vl) rfl (wpAny_bind (wpAny_field hos hds (x := vu) rfl (wpAny_bind (wpAny_field hos hds (x := vs) rfl (wpAny_pure ?_)))))))
  refine wpAny_bind (HT.slicePart_ ps ?_)
  show wpAny _ _ (if ((-1 : Int) == 0) = true then _ else _) _ _ s
  rw [if_neg (by decide)]
  refine wpAny_bind (HT.slicePart_ pl (wpAny_bind (HT.slicePart_ pu (wpAny_bind (wpAny_pure ?_)))))
  have e1 : Builtin.Slice.sliceAdjust none none (-1) (n : Int) = ((n : Int) - 1, -1) := rfl
  have e2 : Builtin.Slice.slicePlaces ((n : Int) - 1) (-1) (-1) = n := by
    unfold Builtin.Slice.slicePlaces
    have h1 : ¬ ((-1 : Int) > 0) := by omega
    rw [if_neg h1]
    by_cases hn : n = 0
    · subst hn; rfl
    · rw [if_pos (by omega), show (-(-1 : Int)) = 1 from rfl, Int.ediv_one]; omega
  show wpAny _ _ (match Builtin.Slice.sliceAdjust none none (-1) (n : Int) with | (lo, hi) => pure (lo, (-1 : Int), Builtin.Slice.slicePlaces lo hi (-1))) _ _ s
  rw [e1]
  show wpAny _ _ (pure ((n : Int) - 1, (-1 : Int), Builtin.Slice.slicePlaces ((n : Int) - 1) (-1) (-1))) _ _ s
  rw [e2]
  exact wpAny_pure h
theorem item_rev_tup {t sl : Addr} {items : Array Value} {vl vu vs : Value} {R : Value → Shared → Prop} (ht : IsTup s.heap t items) (hs : s.heap.IsSliceOf sl vl vu vs) (pl : IsPart vl none) (pu : IsPart vu none) (ps : IsPart vs (some (-1)))
    (h : R (.ref s.heap.objs.size) { s with heap := s.heap.push { cls := .type "tuple", data := .seq items.toList.reverse.toArray } }) (hsz : items.size ≤ sizeLine) : wpAny (model prog w) A (getItem (.ref t) (.ref sl)) R E s := by
  have hk : sizeOk (.seq items.toList.reverse.toArray) := by
    show items.toList.reverse.toArray.size ≤ sizeLine
    rw [List.size_toArray, List.length_reverse, Array.length_toList]; exact hsz
  obtain ⟨os, hos, hcs, hds⟩ := id hs
  have hTs : s.TypeIs (.ref sl) "slice" := ⟨os, hos, hcs⟩
  unfold getItem
  try with_reducible refine wpAny_holding ?_
  first | refine wpAny_bind (wpAny_pure ?_) | skip
  refine wpAny_bind (wpAny_sequenceKey ht.typeIs (by decide) ?_)
  refine wpAny_bind (wpAny_callSpecial?_slot (name := Str.ofString "__getitem__") ht.typeIs PyProof.Rows.slot_tuple_getitem
    (wpAny_call_entry PyProof.Rows.slot_tuple_getitem ht.typeIs entry_tuple_getitem ?_ (args_tuple_getitem _ _)))
  show wpAny _ _ (Builtin.Tuple.tupleItemsOf (.ref t) >>= _) _ _ s
  refine wpAny_bind (tupleItemsOf_ ht ?_)
  refine wpAny_bind (wpAny_typeOf hTs ?_)
  rw [if_pos (by decide)]
  refine wpAny_bind (applied_rev hs pl pu ps ?_)
  have hno : ¬ ((((items.size : Int) - 1 == 0) && (-1 : Int) == 1 && items.size == items.size) = true) := by
    intro q
    rw [Bool.and_eq_true, Bool.and_eq_true] at q
    exact absurd q.1.2 (by decide)
  show wpAny _ _ (if (((items.size : Int) - 1 == 0) && (-1 : Int) == 1 && items.size == items.size) = true then _ else _) _ _ s
  rw [if_neg hno]
  have e := rev_at items
  show wpAny _ _ (Builtin.Tuple.tupleExact ((List.range items.size).filterMap fun (m : Nat) => items[(((items.size : Int) - 1) + (m : Int) * (-1)).toNat]?).toArray >>= _) _ _ s
  rw [e]
  first
    | exact wpAny_bind (m := Builtin.Tuple.tupleExact _) (wpAny_newObj_type (wpAny_pure ⟨_, rfl, wpAny_pure h⟩) hk)
    | exact wpAny_bind (m := Builtin.Tuple.tupleExact _) (wpAny_newObj_type (wpAny_bind (wpAny_pure (wpAny_pure ⟨_, rfl, wpAny_pure h⟩))) hk)
    | exact wpAny_bind (wpAny_bind (m := Builtin.Tuple.tupleExact _) (wpAny_newObj_type (wpAny_pure (wpAny_pure ⟨_, rfl, wpAny_pure h⟩)) hk))
    | exact wpAny_bind (wpAny_bind (m := Builtin.Tuple.tupleExact _) (wpAny_newObj_type (wpAny_pure ⟨_, rfl, wpAny_pure h⟩) hk))
end
section
variable {X : Cx} {T : Tb} {W : WX} {f : En → M Vl}
theorem se_rev {e : Expr} {k : Nat} {p1 p2 p3 pos : Pos} (he : SE X T W e f) : SE X T W (.Subscript e (.Slice none none (some (.UnaryOp .USub (.Constant (.int 1) k p1) p2)) p3) pos) (mRev f) := by
  refine ⟨fun pins s σ H Q I h => ?_⟩
  obtain ⟨ρ, μ, S, sr, er, h⟩ := h
  refine Subscript_ (thn (he.run pins s σ H (fun x H1 => ∃ (μ1 : Nat → Addr) (S1 : Sto) (v : Vl), SRel X.K X.mg T H1 μ1 S1 ∧ Rp X.K X.mg H1 μ1 S1.n v x ∧ PstO X.K X.mg T (rl X.K X.mg) H1 μ1 S1.n Q (bRev v S1)) I ⟨ρ, μ, S, sr, er, Pst.bnd_ h fun v S1 H1 μ1 x e1 sr1 rx h1 => ⟨μ1, S1, v, sr1, rx, h1.lift_⟩⟩) fun v s1 ⟨x, H1, I1, r1, q1⟩ => ?_)
  obtain ⟨μ1, S1, a, sr1, ra, h1⟩ := q1
  have hst : PO X (some (.UnaryOp .USub (.Constant (.int 1) k p1) p2)) (tPart (tUn (rU fun i => .int (-i)) (tC (.int 1)))) := po_some (pe_un un_neg pe_int)
  refine wpAny_Slice (thn (po_none.run pins s1 σ H1 (fun o H2 => o = none ∧ H2 = H1) I1 ⟨rfl, rfl⟩) fun vl s2 ⟨l, H2, I2, pl, el, e2⟩ => ?_)
  subst el e2
  refine thn (po_none.run pins s2 σ H2 (fun o H3 => o = none ∧ H3 = H2) I2 ⟨rfl, rfl⟩) fun vu s3 ⟨u, H3, I3, pu, eu, e3⟩ => ?_
  subst eu e3
  refine thn (hst.run pins s3 σ H3 (fun o H4 => o = some (-1) ∧ H4 = H3) I3 ⟨1, rfl, -1, rfl, rfl, rfl⟩) fun vs s4 ⟨o, H4, I4, ps, eo, e4⟩ => ?_
  subst eo e4
  have I5 : Inv X pins σ H4 { s4 with heap := s4.heap.push { cls := .type "slice", data := .fields #[vl, vu, vs] } } := I4.kept (t' := s4.toks) fun b ob q => Heap.get?_push_of_some _ q
  have hsl := Heap.IsSliceOf.new s4.heap vl vu vs
  show wpAny (model X.prog X.w) X.A (subscriptTail e (.Slice none none (some (.UnaryOp .USub (.Constant (.int 1) k p1) p2)) p3) v (.ref s4.heap.objs.size)) (EP X pins σ Q) X.xe { s4 with heap := s4.heap.push { cls := .type "slice", data := .fields #[vl, vu, vs] } }
  cases a with
  | tup xs =>
    obtain ⟨p, vs', rfl, hx, hr⟩ := ra.tup_at
    cases r1
    obtain ⟨its, r, ht, hz⟩ := I5.tuple hx
    refine tail_any (ops := [.ref p, .ref s4.heap.objs.size]) ht.typeIs (PyProof.Rows.slot_tuple_getitem.lookup) ?_ (by with_unfolding_all rfl)
    have hlen : its.toArray.size = vs'.length := by rw [List.size_toArray]; exact r.length.symm
    refine item_rev_tup ht hsl pl pu ps ?_ (by rw [hlen]; exact hz)
    have I6 := I5.laid (a := (s4.heap.push { cls := .type "slice", data := .fields #[vl, vu, vs] }).objs.size) (o := .tup vs'.reverse) (t' := s4.toks) (h' := (s4.heap.push { cls := .type "slice", data := .fields #[vl, vu, vs] }).push { cls := .type "tuple", data := .seq its.toArray.toList.reverse.toArray }) (fun b ob q => Heap.get?_push_of_some _ q) (Nat.le_refl _)
      ⟨by rw [List.length_reverse]; exact hz, _, by simpa using r.reverse, IsTup.new _ _⟩
    exact ⟨.ref _, _, I6, rfl, fin_tup (show PstO X.K X.mg T (rl X.K X.mg) H4 μ1 S1.n Q (some (.tup xs.reverse, S1)) from h1) sr1 hr.reverse _ (I5.hok.fresh (Nat.le_refl _))⟩
  | ref n =>
    cases e9 : getR S1 n with
    | none => unfold bRev at h1; simp only [e9] at h1; exact h1.elim
    | some xs =>
      unfold bRev at h1; simp only [e9] at h1
      obtain ⟨vs', rfl, hx, hr⟩ := ra.read_at sr1 e9
      cases r1
      obtain ⟨its, r, ht, hz⟩ := I5.list hx
      refine tail_any (ops := [.ref (μ1 n), .ref s4.heap.objs.size]) ht.isList.typeIs (PySem.slot_list_getitem.lookup) ?_ (by with_unfolding_all rfl)
      have hlen : its.toArray.size = vs'.length := by rw [List.size_toArray]; exact r.length.symm
      refine wpAny_getItem_list_slice ht.isList hsl pl pu ps (by decide) ?_ (by rw [hlen]; exact hz)
      rw [PySem.W.krv_pick]
      have I6 := I5.laid (a := (s4.heap.push { cls := .type "slice", data := .fields #[vl, vu, vs] }).objs.size) (o := .lst vs'.reverse) (t' := s4.toks) (h' := (s4.heap.push { cls := .type "slice", data := .fields #[vl, vu, vs] }).push { cls := .type "list", data := .seq its.toArray.toList.reverse.toArray }) (fun b ob q => Heap.get?_push_of_some _ q) (Nat.le_refl _)
        ⟨by rw [List.length_reverse]; exact hz, _, 0, by simpa using r.reverse, Heap.get?_push_size _ rfl⟩
      exact ⟨.ref _, _, I6, rfl, fin_lst h1 sr1 hr.reverse _ (I5.hok.fresh (Nat.le_refl _))⟩
  | str z =>
    cases ra
    obtain ⟨t, rfl⟩ := r1
    have h1 : PstO X.K X.mg T (rl X.K X.mg) H4 μ1 S1.n Q (if z.length ≤ sizeLine then some (.str (revS z), S1) else none) := h1
    by_cases hz : z.length ≤ sizeLine
    · rw [if_pos hz] at h1
      obtain ⟨os, hos, hcs, hds⟩ := hsl
      obtain ⟨l, rfl, el⟩ := IsPart.raw pl
      obtain ⟨u, rfl, eu⟩ := IsPart.raw pu
      obtain ⟨q, rfl, eq⟩ := IsPart.raw ps
      refine tail_any (ops := [.str z t, .ref s4.heap.objs.size]) (typeIs_str _ _ _) (PySem.F.slot_str_getitem.lookup) ?_ (by with_unfolding_all rfl)
      refine wpAny_getItem_str_slice (l := l) (u := u) (st := q) ⟨os, hos, hcs, hds⟩ (by rw [eq]; rfl) ?_
      have e3 : slicePicked z l u q = (List.range z.length).map fun k => z.length - 1 - k := by
        unfold slicePicked
        rw [el, eu, eq]
        exact PySem.W.krv_sliceRange z.length
      unfold sliceMade
      rw [eq, e3]
      have hno : ¬ (((some (-1 : Int)).getD 1 == 1 && ((List.range z.length).map fun k => z.length - 1 - k).length == z.length) = true) := by
        intro q
        rw [Bool.and_eq_true] at q
        exact absurd q.1 (by decide)
      rw [if_neg hno]
      refine ⟨?_, .str (revS z), H4, I5.tok _, ⟨_, rfl⟩, PstO.here h1 sr1 (.str _)⟩
      have hl : (revS z).length ≤ z.length := by
        unfold revS
        show ((((List.range z.length).map fun k => z.length - 1 - k).filterMap (z.cps[·]?)).toArray).size ≤ _
        rw [List.size_toArray]
        refine Nat.le_trans (List.length_filterMap_le _ _) ?_
        rw [List.length_map, List.length_range]; exact Nat.le_refl _
      exact Nat.le_trans hl hz
    · rw [if_neg hz] at h1; exact h1.elim
  | _ => exact h1.elim
end

section
variable {X : Cx} {T : Tb}
theorem ms_upper : MtS X T "str.upper" mtUpper := by
  intro pins s σ H x xs v us Q I rx rs h
  obtain ⟨μ, S, o, as, sr, ro, ra, h⟩ := h
  cases o with
  | str z =>
    cases ra with
    | cons _ _ => exact h.elim
    | nil =>
      cases ro
      have h : PstO X.K X.mg T (rl X.K X.mg) H μ S.n Q (if z.length ≤ 5592405 then some (.str (Txt.upper z), S) else none) := h
      by_cases hz : z.length ≤ 5592405
      · rw [if_pos hz] at h
        exact mt_upper pins s σ H _ _ v us Q I rx rs ⟨z, rfl, rfl, hz, PstO.here h sr (.str _)⟩
      · rw [if_neg hz] at h; exact h.elim
  | _ => exact h.elim
end
end Q

set_option linter.all false
set_option maxRecDepth 100000
set_option maxHeartbeats 800000
namespace Q
open PySem PySem.Spec PyProof.Rows L2

/-! ### what the printed derivations use besides -/
theorem FCx.u1002 {X : Cx} {W : WX} {k : Nat} {g : Bool} (c : FCx g X W k) : X.A.units + 192 < cLine := by have := c.hr.un; omega
theorem FCx.calm_ {X : Cx} {W : WX} {k : Nat} {g : Bool} (c : FCx g X W k) : X.calm = true := c.calm
theorem FCx.nd_ {X : Cx} {W : WX} {k : Nat} {g : Bool} (c : FCx g X W k) : X.N.Nodup := c.nd
def mNeg (f : En → M Vl) : En → M Vl := fun ρ => bnd (f ρ) fun v => match v with
  | .int i => ret (.int (-i))
  | _ => fail
def mNotT (f : En → M Bool) : En → M Vl := fun ρ => bnd (f ρ) fun b => ret (.bl (!b))
def mDict0 : En → M Vl := fun _ => lift fun S => some (.ref S.n, S.push (.dic false []))
section
variable {X : Cx} {T : Tb} {W : WX} {pos : Pos}
theorem se_gl2 {x : Str} (hg : Gl X x) (hm : ∃ a, X.mg x = some (.ref a)) (hd : (x == ("__debug__" : Str)) = false := by decide) : SE X T W (.Name x pos) (mC (.gl x)) := by
  obtain ⟨a, hm⟩ := hm
  exact se_gl hg hm hd
theorem se_neg {a : Expr} {f : En → M Vl} (ha : SE X T W a f) : SE X T W (.UnaryOp .USub a pos) (mNeg f) := by
  refine PE.imp (pe_un un_neg ha) fun σ H Q h => ?_
  obtain ⟨ρ, μ, S, sr, er, h⟩ := h
  refine ⟨ρ, μ, S, sr, er, Pst.bnd_ h fun v S1 H1 μ1 x e1 sr1 rx h1 => ?_⟩
  cases v with
  | int i => cases rx; exact ⟨i, rfl, Pst.here h1 sr1 (.int _)⟩
  | _ => exact h1.elim
end
/-- the name of the lambdas of a def x -/
def lamQ (x : Str) : Str := (envOfC x default 0 0 .none).qual ++ "<lambda>"
structure MkOf (base : Heap) (mg : Str → Option Value) (T : Tb) (x : Str) (cdv : Value) : Prop where
  ex : ∃ c P : Addr, cdv = .ref c ∧ LamX.TabB base mg c P ∧ (P, lamQ x) ∈ T ∧ ∀ p ∈ T, p.1 = P → p.2 = lamQ x
theorem MkOf.of {P : Program} {w : World} {K : PySem.W.Frag} {mg : Str → Option Value} {T : Tb} {base : Heap} {x : Str} {cdv : Value} (m : MkOf base mg T x cdv) {N : List Str} {st : Stmt} {f : Addr} (A : Around) (outer : List Env) (s : Shared) (H : Hp) (E : XK) :
    Maker (fX P w K mg base N x st f cdv A outer s H E) T := by
  obtain ⟨c, p, rfl, h1, h2, h3⟩ := m.ex
  exact ⟨c, p, h1, rfl, h2, h3⟩
end Q

set_option linter.all false
set_option maxRecDepth 100000
set_option maxHeartbeats 2000000
namespace Q
open PySem PySem.Spec PyProof.Rows L2

/-! ### the law is called: what is tracked then -/
/-- the script, where it is no part of K, and the empty tables -/
noncomputable def trk0 (tb : List Addr) (K : PySem.W.Frag) (a : Addr) (ob : Obj) (ns : List Int) : Hp := fun b =>
  open Classical in if b ∈ tb then some (.tbl #[]) else if b = a ∧ K.lookup a = none then some (.frz ob (.lst (ns.map V.int))) else none
section
variable {tb : List Addr} {K : PySem.W.Frag} {a : Addr} {ob : Obj} {ns : List Int}
theorem trk0_tab {b : Addr} (h : b ∈ tb) : trk0 tb K a ob ns b = some (.tbl #[]) := by unfold trk0; rw [if_pos h]
theorem trk0_scr (h : a ∉ tb) (hk : K.lookup a = none) : trk0 tb K a ob ns a = some (.frz ob (.lst (ns.map V.int))) := by unfold trk0; rw [if_neg h, if_pos ⟨rfl, hk⟩]
theorem trk0_else {b : Addr} (h : b ∉ tb) (h2 : ¬ (b = a ∧ K.lookup a = none)) : trk0 tb K a ob ns b = none := by unfold trk0; rw [if_neg h, if_neg h2]
theorem trk0_inv {b : Addr} {u : HO} (e : trk0 tb K a ob ns b = some u) : (b ∈ tb ∧ u = .tbl #[]) ∨ (b ∉ tb ∧ b = a ∧ K.lookup a = none ∧ u = .frz ob (.lst (ns.map V.int))) := by
  by_cases h : b ∈ tb
  · rw [trk0_tab h] at e; exact .inl ⟨h, (Option.some.inj e).symm⟩
  · by_cases h2 : b = a ∧ K.lookup a = none
    · obtain ⟨rfl, h3⟩ := h2
      rw [trk0_scr h h3] at e
      exact .inr ⟨h, rfl, h3, (Option.some.inj e).symm⟩
    · rw [trk0_else h h2] at e; cases e
end
/-- a list that is only read -/
abbrev RoV (K : PySem.W.Frag) (H : Hp) (a : Addr) (vs : List V) : Prop := (∃ o, H a = some (.frz o (.lst vs))) ∨ (∃ (o : Obj) (its : Array Value) (n : Nat), K.lookup a = some o ∧ o.cls = .type "list" ∧ o.dict = none ∧ o.data = .seq its n ∧ its.size ≤ sizeLine ∧ Vals vs its.toList)
/-- the law's call, where no text of a container is under way -/
theorem law_g {P : Program} {w : World} {K : PySem.W.Frag} {mg mb : Str → Option Value} {k : Nat} {fa a : Addr} {cs : List (Addr × Addr)} {fd : FuncData} {x : Str} {sp : Sp} {s₁ : Shared} {vs : List Value} {ns : List Int}
    (KX : K.In s₁.heap) (hns : s₁.heap.Ns mainGlobals mg) (hb : s₁.heap.Ns builtinsNs mb) (hbb : ∀ x : Str, x ≠ "__name__" → mb x = bootBuiltins x) (hlim : s₁.heap.NoLimit) (hg : s₁.gens = #[])
    (hT : ∀ p ∈ cs, s₁.heap.get? p.2 = some { cls := .none, data := .fields #[] }) (nT : ∀ p ∈ cs, K.lookup p.2 = none) (C : ∀ p ∈ cs, PySem.W.CodeHd s₁.heap p.1 p.2)
    (hbm : ∃ (bm : Addr) (ob : Obj), mg "__builtins__" = some (.ref bm) ∧ bm ≠ builtinsNs ∧ s₁.heap.get? bm = some ob ∧ ob.cls = .type "module" ∧ ob.dict = some builtinsNs ∧ ob.data = .plain)
    (ha : s₁.heap.get? a = some { cls := .type "list", data := .seq vs.toArray }) (hi : IntsAre vs ns) (hl : ns.length ≤ sizeLine) (hr : Room k callerA)
    (F : ∀ base : Heap, K.In base → base.Ns mainGlobals mg → (∀ p ∈ cs, LamX.TabB base mg p.1 p.2) → FnQ true P w K mg base k fa fd [x] sp) (hbind : ∀ (s : Shared) (u : Value), BindsTo s fd ⟨[u], []⟩ [(x, u)])
    (hsp : ∀ H : Hp, (∀ p ∈ cs, H p.2 = some (.tbl #[])) → RoV K H a (ns.map V.int) → sp [.ref a] H (fun v _ => v = .bl true) fun _ _ _ => False) :
    codeAny (model P w) callerA (.call (.ref fa) ⟨[.ref a], []⟩) (fun r s' => r = .ok (.ret (.bool true)) ∧ OldK s₁.heap s'.heap ∧ s'.os = s₁.os ∧ AllBare s'.gens) s₁ := by
  let ob : Obj := { cls := .type "list", data := .seq vs.toArray }
  let tb : List Addr := cs.map (·.2)
  let H : Hp := trk0 tb K a ob ns
  have rv := vals_ints hi
  have lenV := hi.length
  have tabAt : ∀ b ∈ tb, s₁.heap.get? b = some { cls := .none, data := .fields #[] } := fun b hb => by
    obtain ⟨p, hp, rfl⟩ := List.mem_map.mp hb
    exact hT p hp
  have aOut : a ∉ tb := fun z => by
    have q := tabAt a z
    rw [ha] at q
    exact nomatch (congrArg Obj.data (Option.some.inj q) : Data.seq vs.toArray _ = Data.fields #[])
  -- an object that is neither a list nor an empty table is not tracked
  have free_ : ∀ {b : Addr} {o : Obj}, s₁.heap.get? b = some o → (∀ z n, o.data ≠ .seq z n) → o.data ≠ .fields #[] → H b = none := fun {b o} e h1 h2 => by
    refine trk0_else (fun z => ?_) fun z => ?_
    · have q := tabAt b z
      rw [e] at q; cases q; exact h2 rfl
    · have q := ha
      rw [← z.1, e] at q; cases q; exact h1 _ _ rfl
  have dict_ : ∀ {b : Addr} {o : Obj} {es : Array DictEntry} {ep : Nat}, s₁.heap.get? b = some o → o.data = .dict es ep → H b = none := fun e d => free_ e (fun z n q => by rw [d] at q; cases q) fun q => by rw [d] at q; cases q
  have ns_ : ∀ {b : Addr} {m : Str → Option Value}, s₁.heap.Ns b m → (hidT s₁.heap H).Ns b m := fun {b m} ⟨o, es, ep, e, d, r⟩ => ⟨o, es, ep, hidT_get e (dict_ e d), d, r⟩
  have kin : K.In (hidT s₁.heap H) := fun b o e => hidT_get (KX b o e) (trk0_else (fun z => by
      obtain ⟨p, hp, rfl⟩ := List.mem_map.mp z
      rw [nT p hp] at e; cases e) fun z => by
      rw [z.1, z.2] at e; cases e)
  have md : L2.Mod K mg (hidT s₁.heap H) := ⟨kin, ns_ hns, ⟨mb, ns_ hb, hbb⟩, let ⟨mc, h1, h2⟩ := hlim; ⟨mc, ns_ h1, h2⟩⟩
  have tabB : ∀ p ∈ cs, LamX.TabB (hidT s₁.heap H) mg p.1 p.2 := fun p hp => by
    refine ⟨?_, ?_, fun z => ?_⟩
    · obtain ⟨o, us, f, tf, fl, tg, inF, tx, tt, e1, r1, r2, r3, rest⟩ := C p hp
      refine ⟨o, us, f, tf, fl, tg, inF, tx, tt, hidT_get e1 (free_ e1 (fun z n q => ?_) fun q => ?_), r1, r2, r3, rest⟩
      · rw [r2] at q; cases q
      · rw [r2] at q; cases q; simp at r3
    · obtain ⟨bm, o, b1, b2, b3, b4, b5, b6⟩ := hbm
      refine ⟨bm, o, b1, b2, fun q => ?_, fun q => ?_, hidT_get b3 (free_ b3 (fun z n q => ?_) fun q => ?_), b4, b5, b6⟩
      · obtain ⟨o2, es, ep, e, hd, _⟩ := hns
        rw [q, e] at b3; cases b3
        rw [hd] at b6; cases b6
      · rw [q, hT p hp] at b3; cases b3; cases b6
      · rw [b6] at q; cases q
      · rw [b6] at q; cases q
    · obtain ⟨o2, es, ep, e, hd, _⟩ := hns
      rw [z, hT p hp] at e; cases e; cases hd
  have hok : HOk P w H s₁.heap := fun b u e => by
    rcases trk0_inv e with ⟨h1, rfl⟩ | ⟨_, rfl, _, rfl⟩
    · exact tabAt b h1
    · exact ⟨ha, by rw [List.length_map]; exact hl, vs, _, rv, ha⟩
  have sq : RoV K H a (ns.map V.int) := by
    cases hk : K.lookup a with
    | none => exact .inl ⟨ob, trk0_scr aOut hk⟩
    | some o =>
      have e := KX a o hk
      rw [ha] at e; cases e
      exact .inr ⟨_, vs.toArray, _, hk, rfl, rfl, rfl, by rw [List.size_toArray, lenV]; exact hl, by simpa using rv⟩
  have tabs : ∀ p ∈ cs, H p.2 = some (.tbl #[]) := fun p hp => trk0_tab (List.mem_map.mpr ⟨p, hp, rfl⟩)
  have e0 : Env0 P w K mg (hidT s₁.heap H) callerA [] s₁ H := ⟨rfl, md, fun b o e => of_hidT e, Nat.le_of_eq (hidT_size _ _), trivial, fun b hb => absurd (show b ∈ ([] : List Addr) from hb) (by simp), hok, .of_eq hg⟩
  refine codeAny_mono ((F _ kin (ns_ hns) tabB).run callerA [] s₁ H ⟨[.ref a], []⟩ [.ref a] [.ref a] _ _ hr (fun _ => rfl) e0 (hbind s₁ (.ref a)) (.cons rfl .nil) (hsp H tabs sq)) fun r s' h => ?_
  match r, h with
  | .error e, h =>
    exact (CX_false h).elim
  | .ok .next, h => exact False.elim h
  | .ok .brk, h => exact False.elim h
  | .ok .cont, h => exact False.elim h
  | .ok (.ret u), h =>
    obtain ⟨v, H', os, bare, un, hok', ru, qv⟩ := h
    obtain rfl : v = .bl true := qv
    obtain rfl : u = Value.bool true := ru
    have stays : ∀ b o, b ∉ tb → s₁.heap.get? b = some o → s'.heap.get? b = some o := fun b o nb e => by
      cases q : H b with
      | none => exact un.keep b o e q (fun z => absurd (show b ∈ ([] : List Addr) from z) (by simp)) (by simp)
      | some u =>
        rcases trk0_inv q with ⟨h1, _⟩ | ⟨_, rfl, _, rfl⟩
        · exact absurd h1 nb
        · obtain ⟨e2, _⟩ := hok' b _ (un.frzs b ob _ q)
          rw [ha] at e; cases e
          exact e2
    have grown : ∀ p ∈ cs, ∃ more : Array Value, s'.heap.get? p.2 = some { cls := .none, data := .fields more } := fun p hp => by
      obtain ⟨more, z⟩ := un.tbls p.2 #[] (tabs p hp)
      exact ⟨_, hok' p.2 _ z⟩
    refine ⟨rfl, ⟨fun b o e => ?_, fun b o e => ?_⟩, os, bare⟩
    · by_cases hm : b ∈ tb
      · obtain ⟨p, hp, rfl⟩ := List.mem_map.mp hm
        obtain ⟨more, hm⟩ := grown p hp
        rw [hT p hp] at e; cases e
        exact .inr (.inl ⟨((C p hp).tab (hT p hp)).isCodeTable, rfl, #[], more, rfl, by rw [Array.empty_append]; exact hm⟩)
      · exact .inl (stays b o hm e)
    · by_cases hm : b ∈ tb
      · obtain ⟨p, hp, rfl⟩ := List.mem_map.mp hm
        obtain ⟨more, hm⟩ := grown p hp
        exact ⟨_, hm⟩
      · exact ⟨o, stays b o hm e⟩
where
  CX_false {P : Program} {w : World} {H : Hp} {s s' : Shared} {Q : VK} {e : Value} (h : CR (L2.CX P w) [] P w H s Q (fun _ _ _ => False) (.error e) s') : False := by
    obtain ⟨_, _, _, _, _, _, _, _, _, _, _, _, z⟩ := h
    exact z

/-! ### the law's row -/
def LawG (l : PySem.W.OpenLaw) (w : World) (K : PySem.W.Frag) (k n : Nat) (x : Str) (mg : Str → Option Value) (fa : Addr) (h : Heap) : Prop :=
  ∃ (fd : FuncData) (cs : List (Addr × Addr)) (sp : Sp), (∀ p ∈ cs, h.get? p.2 = some { cls := .none, data := .fields #[] }) ∧ (∀ p ∈ cs, K.lookup p.2 = none) ∧ (∀ p ∈ cs, PySem.W.CodeHd h p.1 p.2) ∧ (∀ (s : Shared) (u : Value), BindsTo s fd ⟨[u], []⟩ [(x, u)]) ∧
    (∀ (H : Hp) (a : Addr) (ns : List Int), ns.length ≤ n → (∀ z ∈ ns, Builtin.Int.intBits z ≤ 1048576) → (∀ p ∈ cs, H p.2 = some (.tbl #[])) → RoV K H a (ns.map V.int) → sp [.ref a] H (fun v _ => v = .bl true) fun _ _ _ => False) ∧
    ∀ base : Heap, K.In base → base.Ns mainGlobals mg → (∀ p ∈ cs, LamX.TabB base mg p.1 p.2) → FnQ true l.prog w K mg base k fa fd [x] sp
theorem walk_g {l : PySem.W.OpenLaw} {n k : Nat} {q : Program} {loose : List Str} {XP : (Str → Option Value) → Heap → Prop} {YP : World → Heap → Prop} {d : DefRec} {x : Str}
    (hn : l.most = some n) (hn2 : n ≤ sizeLine) (hdf : d.params.defaults = []) (hr : Room k callerA)
    (F : ∀ (w : World) (mg : Str → Option Value) (fa : Addr) (h : Heap), YP w h → h.Ns mainGlobals mg → mg d.name = some (.ref fa) → ∃ K : PySem.W.Frag, K.In h ∧ LawG l w K k n x mg fa h) :
    PySem.W.WalkO q loose XP YP l.row.toRowW d [] (fun f vs => PySem.call f vs) := by
  refine Att.attach_callB hn hdf fun w s₀ s₁ mg mb fa o pm cd doc a vs ns G Y ho hd hcd hmg hobj hints hlen hbits hg => ?_
  obtain ⟨K, KX, fd, cs, sp, hT, nT, C, hb, hsp, hF⟩ := F w mg fa _ Y G.T.g hmg
  exact law_g KX G.T.g G.T.b G.T.builtins G.T.nolimit hg hT nT C G.T.bmain hobj hints (Nat.le_trans hlen hn2) hr hF hb fun H hH hS => hsp H a ns hlen hbits hH hS

/-! ### facts of the top -/
mutual
def cstB (K : PySem.W.Frag) : Vl → Value → Bool
  | .non, .none => true
  | .bl b, .bool c => b == c
  | .int i, .int j _ => decide (i = j)
  | .str x, .str y _ => decide (x = y)
  | .tup xs, .ref a => (match K.lookup a with
    | some ⟨.type c, _, .seq its _, _⟩ => decide (c = "tuple") && (decide (its.size ≤ sizeLine) && cstBs K xs its.toList)
    | _ => false)
  | _, _ => false
def cstBs (K : PySem.W.Frag) : List Vl → List Value → Bool
  | [], [] => true
  | v :: vs, u :: us => cstB K v u && cstBs K vs us
  | _, _ => false
end
mutual
theorem cstB_ok {K : PySem.W.Frag} {mg : Str → Option Value} : ∀ {v : Vl} {u : Value}, cstB K v u = true → ∃ y, RelV y u ∧ ∀ H μ N, Rp K mg H μ N v y
  | .non, .none, _ => ⟨.non, rfl, fun _ _ _ => .non⟩
  | .bl b, .bool c, h => by
    have e : b = c := by simpa [cstB] using h
    subst e; exact ⟨.bl b, rfl, fun _ _ _ => .bl b⟩
  | .int i, .int j t, h => by
    have e : i = j := by simpa [cstB] using h
    subst e; exact ⟨.int i, ⟨t, rfl⟩, fun _ _ _ => .int i⟩
  | .str i, .str j t, h => by
    have e : i = j := by simpa [cstB] using h
    subst e; exact ⟨.str i, ⟨t, rfl⟩, fun _ _ _ => .str i⟩
  | .tup xs, .ref a, h => by
    unfold cstB at h
    cases q : K.lookup a with
    | none => rw [q] at h; cases h
    | some o =>
      obtain ⟨oc, od, dt, osl⟩ := o
      rw [q] at h
      cases oc with
      | type c =>
        cases dt with
        | seq its n =>
          have h : (decide (c = "tuple") && (decide (its.size ≤ sizeLine) && cstBs K xs its.toList)) = true := h
          simp only [Bool.and_eq_true, decide_eq_true_eq] at h
          obtain ⟨h1, h2, h3⟩ := h
          obtain ⟨ys, r, rp⟩ := cstBs_ok h3
          exact ⟨.ref a, rfl, fun H μ N => .tup (.inr ⟨_, its, n, q, congrArg Value.type h1, rfl, h2, r⟩) (rp H μ N)⟩
        | _ => cases h
      | _ => cases dt <;> cases h
  | .non, .bool _, h | .non, .int _ _, h | .non, .str _ _, h | .non, .ref _, h => by cases h
theorem cstBs_ok {K : PySem.W.Frag} {mg : Str → Option Value} : ∀ {v : List Vl} {u : List Value}, cstBs K v u = true → ∃ y, Vals y u ∧ ∀ H μ N, RpAll K mg H μ N v y
  | [], [], _ => ⟨[], .nil, fun _ _ _ => .nil⟩
  | v :: vs, u :: us, h => by
    have h : (cstB K v u && cstBs K vs us) = true := h
    rw [Bool.and_eq_true] at h
    obtain ⟨y, r1, p1⟩ := cstB_ok h.1
    obtain ⟨ys, r2, p2⟩ := cstBs_ok h.2
    exact ⟨y :: ys, .cons r1 r2, fun H μ N => .cons (p1 H μ N) (p2 H μ N)⟩
  | [], _ :: _, h => by cases h
  | _ :: _, [], h => by cases h
end
end Q

set_option linter.all false
set_option maxRecDepth 100000
set_option maxHeartbeats 1000000
namespace Q
open PySem PySem.Spec PyProof.Rows L2

/-! ### classes and constants, looked at -/
def bb {a b : Bool} (h : (a && b) = true) : a = true ∧ b = true := Bool.and_eq_true_iff.mp h
def excCB (K : PySem.W.Frag) (D : Addr) : Bool :=
  He.eqO (PySem.W.findIn K (.ref D) "__getattribute__") (some (some (.builtin "BaseException.__getattribute__"))) && (He.eqO (PySem.W.findIn K (.ref D) "__getattr__") (some none) && (decide (PySem.W.subIn K (.ref D) (.type "BaseException") = some true) && (PySem.W.hasDictIn K D &&
  (He.eqO (PySem.W.findIn K (.ref D) "__class__") (some (some (.builtin "object.__class__"))) && (He.eqO (PySem.W.specialIn K (.builtin "object.__class__") "__get__") (some (some (.builtin "getset_descriptor.__get__"))) && (decide (PySem.W.takesIn K (.builtin "object.__class__") = some true) && decide (PySem.W.mroIn K D (.type "object") = some true)))))))
theorem excCB_ok {K : PySem.W.Frag} {D : Addr} (h : excCB K D = true) : ExcC K D := by
  obtain ⟨h1, h⟩ := bb h
  obtain ⟨h2, h⟩ := bb h
  obtain ⟨h3, h⟩ := bb h
  obtain ⟨h4, h⟩ := bb h
  obtain ⟨h5, h⟩ := bb h
  obtain ⟨h6, h⟩ := bb h
  obtain ⟨h7, h8⟩ := bb h
  exact ⟨He.eqO_ok h1, He.eqO_ok h2, of_decide_eq_true h3, h4, He.eqO_ok h5, He.eqO_ok h6, of_decide_eq_true h7, of_decide_eq_true h8⟩
def exsB (K : PySem.W.Frag) (sub : List (Str × Str)) (ok : List Str) : Bool :=
  (ok.all fun c => excCB K (He.ga K c)) && ((ok.all fun c => ok.all fun d => decide (PySem.W.kitOne K (.ref (He.ga K c)) (.ref (He.ga K d)) = some (decide ((c, d) ∈ sub)))) && (ok.all fun d => tyNs.all fun a => decide (PySem.W.kitOne K (.type a) (.ref (He.ga K d)) = some false)))
def glosB (K : PySem.W.Frag) (xs : List Str) : Bool := xs.all fun x => (He.Fa.glo x).ok K
def freesB (K : PySem.W.Frag) (xs : List Str) : Bool := xs.all fun x => (He.Fa.free x).ok K
section
variable {K : PySem.W.Frag} {h : Heap} {mg : Str → Option Value}
theorem glo_at (X : K.In h) (G : h.Ns mainGlobals mg) {xs : List Str} (c : glosB K xs = true) {x : Str} (hx : x ∈ xs) : mg x = some (.ref (He.ga K x)) := He.glo_ok X G (List.all_eq_true.mp c x hx)
theorem free_at (X : K.In h) (G : h.Ns mainGlobals mg) {xs : List Str} (c : freesB K xs = true) {x : Str} (hx : x ∈ xs) : mg x = none := He.free_ok X G (List.all_eq_true.mp c x hx)
theorem exs_of (X : K.In h) (G : h.Ns mainGlobals mg) {sub : List (Str × Str)} {ok xs : List Str} (hg : glosB K xs = true) (hs : ∀ x ∈ ok, x ∈ xs) (c : exsB K sub ok = true) : ExcCs K mg sub ok := by
  obtain ⟨c1, c⟩ := bb c
  obtain ⟨c2, c3⟩ := bb c
  have at_ : ∀ c ∈ ok, ∀ C, mg c = some (.ref C) → C = He.ga K c := fun c hc C e => by
    rw [glo_at X G hg (hs c hc)] at e
    exact (Value.ref.inj (Option.some.inj e)).symm
  refine ⟨fun c hc C e => ?_, fun c hc d hd C D e e2 => ?_, fun d hd D e a ha => ?_⟩
  · rw [at_ c hc C e]; exact excCB_ok (List.all_eq_true.mp c1 c hc)
  · rw [at_ c hc C e, at_ d hd D e2]; exact of_decide_eq_true (List.all_eq_true.mp (List.all_eq_true.mp c2 c hc) d hd)
  · rw [at_ d hd D e]; exact of_decide_eq_true (List.all_eq_true.mp (List.all_eq_true.mp c3 d hd) a ha)
theorem excS_of (X : K.In h) (G : h.Ns mainGlobals mg) {xs : List Str} (hg : glosB K xs = true) {c : Str} (hc : c ∈ xs) (e : (He.Fa.exc c).ok K = true) : ExcS K mg c [.type "ValueError", .type "Exception", .type "BaseException", .type "object"] "ValueError.__new__" := by
  obtain ⟨h1, h2, h3, h4⟩ := He.exc_ok e
  exact ⟨_, glo_at X G hg hc, h1, h2, h3, h4⟩
def csB (K : PySem.W.Frag) (x : Str) (v : Vl) : Bool := match PySem.W.nsIn K mainGlobals x with
  | some (some u) => cstB K v u
  | _ => false
theorem cst_of (X : K.In h) (G : h.Ns mainGlobals mg) {x : Str} {v : Vl} (c : csB K x v = true) : Cst K mg x v := by
  unfold csB at c
  cases e : PySem.W.nsIn K mainGlobals x with
  | none => rw [e] at c; cases c
  | some o =>
    rw [e] at c
    cases o with
    | none => cases c
    | some u =>
      obtain ⟨y, r, rp⟩ := cstB_ok (mg := mg) c
      exact ⟨u, y, PySem.W.mg_of X G e, r, rp⟩

/-! ### a def, out of the head's facts -/
/-- a def without defaults, as the head tells it -/
def dOf (x : Str) (st : Stmt) : He.DefD := ⟨(x, none), x, x, defArgs st, defBody st, defScope st, [], []⟩
structure FDx (K : PySem.W.Frag) (x : Str) (st : Stmt) (fd : FuncData) (cdv : Value) : Prop where
  ex : ∃ (oc : Value) (od : Option Addr) (kV doc pm : Value) (an : Option Addr) (ct : Value) (osl : Array (Option Value)),
    fd = PySem.W.fnOf x x (defArgs st) (defBody st) (defScope st) .none kV doc pm an cdv ct ∧ K.lookup (He.ga K x) = some ⟨oc, od, .func fd, osl⟩ ∧ PySem.W.codeIn K cdv x = true
  kp : PySem.W.keepIn K (.ref (He.ga K x)) = true
  code : ∃ c, cdv = .ref c ∧ He.codeOf K (x, none) = c
theorem FDx.tx {x : Str} {st : Stmt} {fd : FuncData} {cdv : Value} (F : FDx K x st fd cdv) : FD K x st (He.ga K x) fd cdv := by
  obtain ⟨oc, od, kV, doc, pm, an, ct, osl, e, lk, hcd⟩ := F.ex
  exact ⟨⟨oc, od, _, kV, doc, pm, an, ct, osl, e, lk, hcd⟩, F.kp⟩
theorem fdx_of {fa : List He.Fa} {fn : List He.DefD} (c : He.SaysD fa fn K) {x : Str} {st : Stmt} (hx : dOf x st ∈ fn) : ∃ fd cdv, FDx K x st fd cdv := by
  obtain ⟨fd, F⟩ := c.defs hx
  obtain ⟨oc, od, dV, kV, doc, pm, an, cdv, ct, osl, rfl, lk, hcd, hD, hK⟩ := F.ex
  obtain ⟨cc, rfl⟩ := He.codeIn_ref hcd
  have hD : dV = .none := by
    rcases hD with ⟨_, e⟩ | ⟨e, _⟩
    · exact e
    · exact absurd rfl e
  subst hD
  exact ⟨_, _, ⟨_, _, _, _, _, _, _, _, rfl, lk, hcd⟩, F.kp, cc, rfl, He.codeOf_eq (p := (x, none)) lk rfl⟩
end
section
variable {P : Program} {w : World} {K : PySem.W.Frag} {mg : Str → Option Value} {T : Tb} {base : Heap}
theorem FDx.cal {g : Bool} {x : Str} {st : Stmt} {fd : FuncData} {cdv : Value} {ps : List Str} {k : Nat} {h : List Vl → M Vl} (F : FDx K x st fd cdv) (hm : mg x = some (.ref (He.ga K x)))
    (hb : ∀ (kV doc pm : Value) (an : Option Addr) (ct : Value) (us : List Value), us.length = ps.length → bindArgs (PySem.W.fnOf x x (defArgs st) (defBody st) (defScope st) .none kV doc pm an cdv ct) ⟨us, []⟩ = pure (ps.zip us))
    (ok : FnQ g P w K mg base k (He.ga K x) fd ps (spF K mg T ps.length h)) (hl : ∀ as S, as.length ≠ ps.length → h as S = none) : CalS g P w K mg T base k x [] h := by
  obtain ⟨oc, od, kV, doc, pm, an, ct, osl, rfl, lk, hcd⟩ := F.ex
  exact cal_of F.kp hm (.all (hb kV doc pm an ct)) ok hl
theorem FDx.calK {g : Bool} {x : Str} {st : Stmt} {fd : FuncData} {cdv : Value} {ps ks : List Str} {perm : List Nat} {k : Nat} {h : List Vl → M Vl} (F : FDx K x st fd cdv) (hm : mg x = some (.ref (He.ga K x)))
    (hb : ∀ (kV doc pm : Value) (an : Option Addr) (ct : Value) (ws : List Value), (reord perm ws).length = ps.length → bindArgs (PySem.W.fnOf x x (defArgs st) (defBody st) (defScope st) .none kV doc pm an cdv ct) ⟨[], ks.zip ws⟩ = pure (ps.zip (reord perm ws)))
    (ok : FnQ g P w K mg base k (He.ga K x) fd ps (spF K mg T ps.length h)) (hl : ∀ as S, as.length ≠ ps.length → h as S = none) : CalK g P w K mg T base k x ks perm h := by
  obtain ⟨oc, od, kV, doc, pm, an, ct, osl, rfl, lk, hcd⟩ := F.ex
  exact calK_of F.kp hm (hb kV doc pm an ct) ok hl
end
/-- what catches -/
def exmB (K : PySem.W.Frag) (cs : List Str) (y : Str) : Bool := cs.all fun c => decide (PySem.W.exmOne K (.ref (He.ga K c)) (.ref (He.ga K y)) = some true)
theorem caught_of {K : PySem.W.Frag} {h : Heap} {mg : Str → Option Value} (X : K.In h) (G : h.Ns mainGlobals mg) {xs cs : List Str} (hg : glosB K xs = true) {x a r e y : Str} {st : Stmt} {fd : FuncData} {cdv : Value} (F : FDx K x st fd cdv) (hx : x ∈ xs) (hy : y ∈ xs) (hcs : ∀ c ∈ cs, c ∈ xs) (he : exmB K cs y = true)
    {j : Nat} {p0 p1 p2 p3 p4 p5 p6 p7 p8 p9 p10 p11 p12 p13 : Pos}
    (hbg : defBody st = [.Assign [.Name r p0] (.Constant .none j p1) p2, .Try [.Expr (.Call (.Name a p3) [] [] p4) p5] [.ExceptHandler (some (.Name y p6)) (some e) [.Assign [.Name r p7] (.Name e p8) p9] p10] [] [] p11, .Return (some (.Name r p12)) p13])
    (hb : ∀ (kV doc pm : Value) (an : Option Addr) (cdv ct : Value) (us : List Value), us.length = ([a] : List Str).length → bindArgs (PySem.W.fnOf x x (defArgs st) (defBody st) (defScope st) .none kV doc pm an cdv ct) ⟨us, []⟩ = pure (([a] : List Str).zip us))
    (Sg : FnScope [a, r, e] [a] (defScope st)) (hva : Vis (defScope st) a) (hN : ([a, r, e] : List Str).Nodup) (hge : (defScope st).names.lookup y = some .globalImplicit) (hr1 : (defScope st).names.lookup r = some .local) (he1 : (defScope st).names.lookup e = some .local)
    (hde : (y == ("__debug__" : Str)) = false) (hrd : (r == ("__debug__" : Str)) = false) (hrc : (r == ("__classdict__" : Str)) = false) (hed : (e == ("__debug__" : Str)) = false) (hec : (e == ("__classdict__" : Str)) = false) (had : (a == ("__debug__" : Str)) = false) (hac : (a == ("__classdict__" : Str)) = false) (hxd : (x == ("__debug__" : Str)) = false) :
    CaughtS K mg x cs := by
  obtain ⟨oc, od, kV, doc, pm, an, ct, osl, rfl, lk, hcd⟩ := F.ex
  refine ⟨_, _, a, r, e, y, _, _, _, kV, doc, pm, cdv, ct, oc, an, od, osl, j, p0, p1, p2, p3, p4, p5, p6, p7, p8, p9, p10, p11, p12, p13, _, hbg, glo_at X G hg hx, F.kp, lk, hcd, .all (hb kV doc pm an cdv ct), Sg, hva, hN, hge, glo_at X G hg hy, hde, hr1, he1, hrd, hrc, hed, hec, had, hac, hxd, fun c hc C q => ?_⟩
  rw [glo_at X G hg (hcs c hc)] at q
  cases q
  exact of_decide_eq_true (List.all_eq_true.mp he c hc)
/-- the law's store at the entry: the script alone -/
def S0 (ns : List Int) : Sto := ⟨1, fun _ => .ro (ns.map Vl.int)⟩

theorem ints_rp {K : PySem.W.Frag} {mg : Str → Option Value} {H : Hp} {μ : Nat → Addr} {N : Nat} : ∀ ns : List Int, RpAll K mg H μ N (ns.map Vl.int) (ns.map V.int)
  | [] => .nil
  | n :: ns => .cons (.int n) (ints_rp ns)
theorem law_sp {K : PySem.W.Frag} {mg : Str → Option Value} {T : Tb} {H : Hp} {a : Addr} {ns : List Int} {f : List Vl → M Vl} (ht : LamX.Tabs T H) (hs : RoV K H a (ns.map V.int)) (h : ∃ S', f [.ref 0] (S0 ns) = some (.ok (.bl true), S')) :
    spF K mg T 1 f [.ref a] H (fun v _ => v = .bl true) fun _ _ _ => False := by
  obtain ⟨S', h⟩ := h
  refine ⟨rfl, fun _ => a, S0 ns, [.ref 0], ⟨fun n hn => ⟨_, hs, ints_rp ns⟩, fun n m hn hm h1 h2 _ => Bool.noConfusion h1, ht⟩, .cons (.ref 0 (Nat.lt_succ_self 0)) .nil, ?_⟩
  rw [h]
  exact fun H' μ' x e sr r => by cases r; rfl
end Q

set_option linter.all false
set_option maxRecDepth 100000
set_option maxHeartbeats 400000
namespace Q
open PySem PySem.Spec PyProof.Rows L2

/-! ### a chain of two comparisons -/
def mChain (m1 m2 : Vl → Vl → MO Vl) (fa fb fc : En → M Vl) : En → M Vl := fun ρ => bnd (fa ρ) fun x => bnd (fb ρ) fun y => bnd (lift (m1 x y)) fun z => match z with
  | .bl true => bnd (fc ρ) fun w => lift (m2 y w)
  | .bl false => ret (.bl false)
  | _ => fail
section
variable {X : Cx} {T : Tb} {W : WX} {pos : Pos}
theorem se_chain {a b c : Expr} {o1 o2 : CmpOp} {m1 m2 : Vl → Vl → MO Vl} {fa fb fc : En → M Vl} (h1 : OpS X T (compareOp o1) m1) (h2 : OpS X T (compareOp o2) m2) (ha : SE X T W a fa) (hb : SE X T W b fb) (hc : SE X T W c fc)
    (hm : lastMarks [o1, o2] [b, c] = false := by with_unfolding_all rfl) : SE X T W (.Compare a [o1, o2] [b, c] pos) (mChain m1 m2 fa fb fc) := by
  refine PE.imp (pe_chain h1 h2 ha hb hc hm) fun σ H Q h => ?_
  obtain ⟨ρ, μ, S, sr, er, h⟩ := h
  refine ⟨ρ, μ, S, sr, er, Pst.bnd_ h fun x S1 H1 μ1 x' e1 sr1 rx h1 => ?_⟩
  refine ⟨ρ, μ1, S1, sr1, er.ext e1, Pst.bnd_ h1 fun y S2 H2 μ2 y' e2 sr2 ry h2 => ?_⟩
  refine ⟨μ2, S2, x, y, sr2, rx.ext e2, ry, (Pst.bnd_ (rel := rl X.K X.mg) h2 fun z S3 H3 μ3 z' e3 sr3 rz h3 => ?_).lift_⟩
  cases z with
  | bl k =>
    cases rz
    cases k with
    | true =>
      refine ⟨true, rfl, ?_⟩
      rw [if_pos rfl]
      refine ⟨ρ, μ3, S3, sr3, ((er.ext e1).ext e2).ext e3, Pst.bnd_ h3 fun w S4 H4 μ4 w' e4 sr4 rw_ h4 => ?_⟩
      exact ⟨μ4, S4, y, w, sr4, (ry.ext e3).ext e4, rw_, h4.lift_⟩
    | false =>
      refine ⟨false, rfl, ?_⟩
      rw [if_neg (by decide)]
      exact Pst.here h3 sr3 (.bl false)
  | _ => exact h3.elim

/-! ### bool -/
def bBool : List Vl → MO Vl := fun as S => match as with
  | [.int i] => some (.bl (i != 0), S)
  | [.bl k] => some (.bl k, S)
  | _ => none
theorem cs_bool : CaS X T (.type "bool") bBool := by
  intro pins s σ H xs us Q I rs h
  obtain ⟨μ, S, as, sr, ra, h⟩ := h
  obtain ⟨p, e⟩ := h.some_
  unfold bBool at e h
  split at e
  · obtain ⟨x, rfl, r1⟩ := ra.one
    cases r1
    exact call_bool1 pins s σ H _ us Q I rs (.inl ⟨_, rfl, PstO.here h sr (.bl _)⟩)
  · obtain ⟨x, rfl, r1⟩ := ra.one
    cases r1
    exact call_bool1 pins s σ H _ us Q I rs (.inr ⟨_, rfl, PstO.here h sr (.bl _)⟩)
  · cases e

/-! ### list(d), sorted(d), dict(pairs) -/
section
variable {K : PySem.W.Frag} {mg : Str → Option Value} {H : Hp} {μ : Nat → Addr} {N : Nat}
theorem key_rp {k : Vl} {κ : Key} (h : keyOf k = some κ) : Rp K mg H μ N k (kV κ) := by
  cases k with
  | int i => cases h; exact .int i
  | str s => cases h; exact .str s
  | _ => cases h
theorem RpK.keys {kvs : List (Vl × Vl)} {vs : List (Key × V)} (h : RpK K mg H μ N kvs vs) : RpAll K mg H μ N (kvs.map (·.1)) (vs.map fun kv => kV kv.1) := by
  induction h with
  | nil => exact .nil
  | cons k _ _ ih => exact .cons (key_rp k) ih
theorem RpK.ints : ∀ {kvs : List (Vl × Vl)} {vs : List (Key × V)} {ks : List Int}, RpK K mg H μ N kvs vs → asInts (kvs.map (·.1)) = some ks → vs.map (·.1) = ks.map Sum.inl
  | _, _, _, .nil, e => by cases e; rfl
  | (k, x) :: kvs, _, _, .cons h0 _ rs, e => by
    cases k with
    | int i =>
      cases h0
      have e2 : (asInts (kvs.map (·.1))).map (i :: ·) = some _ := e
      cases q : asInts (kvs.map (·.1)) with
      | none => rw [q] at e2; cases e2
      | some ms => rw [q] at e2; cases e2; rw [List.map_cons, List.map_cons, RpK.ints rs q]
    | _ => cases e
end
def bListD : List Vl → MO Vl := fun as S => match as with
  | [.ref n] => (match getD S n with | some kvs => some (.ref S.n, S.push (.lst (kvs.map (·.1)))) | none => none)
  | _ => none
theorem cs_listD (hc : X.calm = true) : CaS X T (.type "list") bListD := by
  intro pins s σ H xs us Q I rs h
  obtain ⟨μ, S, as, sr, ra, h⟩ := h
  obtain ⟨p, e⟩ := h.some_
  unfold bListD at e h
  split at e
  · rename_i n
    obtain ⟨x, rfl, r1⟩ := ra.one
    cases q : getD S n with
    | none => simp only [q] at e; cases e
    | some kvs =>
      simp only [q] at h
      cases r1 with
      | ref n hn =>
      obtain ⟨vs, h1, h2⟩ := getD_at sr hn q
      exact call_listD hc pins s σ H _ us Q I rs ⟨_, vs, rfl, h1, fin_lst h sr h2.keys⟩
  · cases e
def sortI (ns : List Int) : List Int := ns.mergeSort fun a b => decide (a ≤ b)
theorem sortI_eq {ns ys : List Int} (h1 : ys.Perm ns) (h2 : ys.Pairwise (· ≤ ·)) : ys = sortI ns := by
  refine List.Perm.eq_of_pairwise (le := (· ≤ ·)) (fun a b _ _ x y => Int.le_antisymm x y) h2 ?_ (h1.trans (List.mergeSort_perm _ _).symm)
  have := List.pairwise_mergeSort (le := fun a b : Int => decide (a ≤ b)) (fun a b c x y => by simp at *; omega) (fun a b => by simp; omega) ns
  exact this.imp fun h => by simpa using h
def bSortD : List Vl → MO Vl := fun as S => match as with
  | [.ref n] => (match (getD S n).bind fun kvs => asInts (kvs.map (·.1)) with | some ks => if ks.length < 64 then some (.ref S.n, S.push (.lst ((sortI ks).map Vl.int))) else none | none => none)
  | _ => none
theorem cs_sortD (hc : X.calm = true) : CaS X T (.builtin "sorted") bSortD := by
  intro pins s σ H xs us Q I rs h
  obtain ⟨μ, S, as, sr, ra, h⟩ := h
  obtain ⟨p, e⟩ := h.some_
  unfold bSortD at e h
  split at e
  · rename_i n
    obtain ⟨x, rfl, r1⟩ := ra.one
    cases q : getD S n with
    | none => simp only [q, Option.bind_none] at e; cases e
    | some kvs =>
      cases q2 : asInts (kvs.map (·.1)) with
      | none => simp only [q, Option.bind_some, q2] at e; cases e
      | some ks =>
        simp only [q, Option.bind_some, q2] at h e
        by_cases hl : ks.length < 64
        · rw [if_pos hl] at h
          cases r1 with
          | ref n hn =>
          obtain ⟨vs, h1, h2⟩ := getD_at sr hn q
          refine call_sortedDI hc pins s σ H _ us Q I rs ⟨_, vs, ks, rfl, h1, h2.ints q2, hl, fun ys p hp1 hp2 hp => ?_⟩
          rw [sortI_eq hp1 hp2]
          refine fin_lst h sr ?_ p hp
          generalize sortI ks = zs
          induction zs with
          | nil => exact .nil
          | cons z zs ih => exact .cons (.int z) ih
        · rw [if_neg hl] at e; cases e
  · cases e
def asPairs : List Vl → Option (List (Vl × Vl))
  | [] => some []
  | .tup [k, v] :: r => (match keyOf k with | some _ => (asPairs r).map ((k, v) :: ·) | none => none)
  | _ => none
theorem asPairs_rel {K : PySem.W.Frag} {mg : Str → Option Value} {H : Hp} {μ : Nat → Addr} {N : Nat} : ∀ {xs : List Vl} {vs : List V} {kvs : List (Vl × Vl)}, asPairs xs = some kvs → RpAll K mg H μ N xs vs → ∃ (ps : List Addr) (ks : List (Key × V)), vs = ps.map V.ref ∧ Paired (fun p kv => SqT K H p [kV kv.1, kv.2]) ps ks ∧ RpK K mg H μ N kvs ks
  | [], _, _, e, .nil => by cases e; exact ⟨[], [], rfl, .nil, .nil⟩
  | .tup [k, v] :: r, _, kvs, e, .cons r1 rs => by
    unfold asPairs at e
    cases hk : keyOf k with
    | none => rw [hk] at e; cases e
    | some κ =>
      rw [hk] at e
      simp only at e
      cases q : asPairs r with
      | none => rw [q] at e; cases e
      | some ms =>
        rw [q] at e
        cases e
        obtain ⟨ps, ks, rfl, h1, h2⟩ := asPairs_rel q rs
        obtain ⟨a, ws, rfl, k1, k2⟩ := r1.tup_at
        obtain ⟨x, y, rfl, rx, ry⟩ := k2.two
        rw [keyOf_rel hk rx] at k1
        exact ⟨a :: ps, (κ, y) :: ks, rfl, .cons k1 h1, .cons hk ry h2⟩
  | .tup [] :: r, _, kvs, e, _ => by cases e
  | .tup [_] :: r, _, kvs, e, _ => by cases e
  | .tup (_ :: _ :: _ :: _) :: r, _, kvs, e, _ => by cases e
  | .non :: _, _, _, e, _ => by cases e
  | .bl _ :: _, _, _, e, _ => by cases e
  | .int _ :: _, _, _, e, _ => by cases e
  | .str _ :: _, _, _, e, _ => by cases e
  | .ref _ :: _, _, _, e, _ => by cases e
  | .gl _ :: _, _, _, e, _ => by cases e
  | .ty _ :: _, _, _, e, _ => by cases e
  | .exc _ _ _ :: _, _, _, e, _ => by cases e
def bDictP : List Vl → MO Vl := fun as S => match as with
  | [.ref n] => (match (getR S n).bind asPairs with | some kvs => some (.ref S.n, S.push (.dic false (mergeD [] kvs))) | none => none)
  | _ => none
theorem cs_dictP (hc : X.calm = true) : CaS X T (.type "dict") bDictP := by
  intro pins s σ H xs us Q I rs h
  obtain ⟨μ, S, as, sr, ra, h⟩ := h
  obtain ⟨p, e⟩ := h.some_
  unfold bDictP at e h
  split at e
  · rename_i n
    obtain ⟨x, rfl, r1⟩ := ra.one
    cases q : (getR S n).bind asPairs with
    | none => simp only [q] at e; cases e
    | some kvs =>
      simp only [q] at h
      obtain ⟨zs, vs, k1, rfl, k2, k3⟩ := rd_bind sr r1 q
      obtain ⟨ps, ks, rfl, h1, h2⟩ := asPairs_rel k1 k3
      refine call_dictP hc pins s σ H _ us Q I rs ⟨_, ps, ks, rfl, k2, h1, fun p hp => ?_⟩
      have ex : Ext H μ S.n (upd H p (.dK (mergeK [] ks))) (mu1 μ S.n p) (S.n + 1) := ext_new hp _ _ (Nat.le_succ _)
      exact h _ _ _ ex (sr.push hp ⟨_, upd_same, (h2.merge .nil).ext ex⟩) (by have := Rp.ref (K := X.K) (mg := X.mg) (H := upd H p (.dK (mergeK [] ks))) (μ := mu1 μ S.n p) (N := S.n + 1) S.n (Nat.lt_succ_self _); rw [mu1_same] at this; exact this)
  · cases e

/-! ### an int in a tuple of ints -/
def bInT (neg : Bool) : Vl → Vl → MO Vl := fun a b S => match a, b with
  | .int i, .tup xs => (match asInts xs with | some ns => some (.bl (if neg then !ns.contains i else ns.contains i), S) | none => none)
  | _, _ => none
theorem inV_ints {i : Int} : ∀ {ns : List Int}, inV (.int i) (ns.map V.int) = ns.contains i
  | [] => rfl
  | n :: ns => by
    show (eqV (.int n) (.int i) || inV (.int i) (ns.map V.int)) = _
    rw [inV_ints, List.contains_cons]
    show ((n == i) || ns.contains i) = ((i == n) || ns.contains i)
    rw [show (n == i) = (i == n) from Bool.eq_iff_iff.mpr (by rw [beq_iff_eq, beq_iff_eq]; exact eq_comm)]
theorem flat_ints : ∀ {ns : List Int}, (ns.map V.int).all flatV = true
  | [] => rfl
  | n :: ns => by rw [List.map_cons, List.all_cons, flat_ints]; rfl
theorem os_inT : OpS X T (compareOp .In) (bInT false) := by
  intro pins s σ H x y v u Q I rx ry h
  obtain ⟨μ, S, a, b, sr, ra, rb, h⟩ := h
  obtain ⟨p, e⟩ := h.some_
  unfold bInT at e h
  split at e
  · rename_i i xs
    cases q : asInts xs with
    | none => simp only [q] at e; cases e
    | some ns =>
      simp only [q] at h
      obtain ⟨a, vs, rfl, h1, h2⟩ := rb.tup_at
      cases ra
      rw [asInts_rel q h2] at h1
      refine op_in_seq pins s σ H _ _ v u Q I rx ry ⟨_, _, rfl, .inr h1, rfl, flat_ints, ?_⟩
      rw [inV_ints]
      exact PstO.here h sr (.bl _)
  · cases e
theorem os_notinT : OpS X T (compareOp .NotIn) (bInT true) := by
  intro pins s σ H x y v u Q I rx ry h
  obtain ⟨μ, S, a, b, sr, ra, rb, h⟩ := h
  obtain ⟨p, e⟩ := h.some_
  unfold bInT at e h
  split at e
  · rename_i i xs
    cases q : asInts xs with
    | none => simp only [q] at e; cases e
    | some ns =>
      simp only [q] at h
      obtain ⟨a, vs, rfl, h1, h2⟩ := rb.tup_at
      cases ra
      rw [asInts_rel q h2] at h1
      refine op_notIn_seq pins s σ H _ _ v u Q I rx ry ⟨_, _, rfl, .inr h1, rfl, flat_ints, ?_⟩
      rw [inV_ints]
      exact PstO.here h sr (.bl _)
  · cases e

/-! ### d.clear() -/
def mtClear : Vl → List Vl → MO Vl := fun o as S => match o, as with
  | .ref n, [] => (match S.at_ n with | .dic false _ => some (.non, S.set n (.dic false [])) | _ => none)
  | _, _ => none
theorem ms_clear : MtS X T "dict.clear" mtClear := by
  intro pins s σ H x xs v us Q I rx rs h
  obtain ⟨μ, S, o, as, sr, ro, ra, h⟩ := h
  cases o with
  | ref n =>
    cases ra with
    | cons _ _ => exact h.elim
    | nil =>
      unfold mtClear at h
      simp only at h
      cases q : S.at_ n with
      | dic lk kvs =>
        cases lk with
        | true => rw [q] at h; exact h.elim
        | false =>
          rw [q] at h
          simp only at h
          cases ro with
          | ref n hn =>
          have ob := sr.at_ n hn
          rw [q] at ob
          obtain ⟨vs, h1, h2⟩ := ob
          have wr := sr.write (o := .dK []) (ob := .dic false []) hn (by rw [q]; rfl) rfl (by rw [h1]; intro _ z; cases z) (by rw [h1]; intro _ _ z; cases z) (by rw [h1]; intro _ z; cases z) (by rw [h1]; intro _ z; cases z) (fun _ => ⟨[], upd_same, .nil⟩)
          exact mtd_clear pins s σ H _ _ v us Q I rx rs ⟨_, vs, rfl, rfl, h1, h _ μ .non wr.2 wr.1 .non⟩
      | _ => rw [q] at h; exact h.elim
  | _ => exact h.elim
end

/-! ### a dict that is walked -/
section
variable {K : PySem.W.Frag} {mg : Str → Option Value} {T : Tb} {H : Hp} {μ : Nat → Addr} {S : Sto} {N : Nat} {d : Addr} {od : Obj} {vs : List (Key × V)}
theorem un_sq {a : Addr} {ws : List V} (hd : H d = some (.frz od (.dK vs))) (h : SqT K H a ws) : SqT K (upd H d (.dK vs)) a ws := by
  rcases h with (h | ⟨o, h⟩) | h
  · exact .inl (.inl (by rw [upd_ne (fun z => by rw [z, hd] at h; cases h)]; exact h))
  · exact .inl (.inr ⟨o, by rw [upd_ne (fun z => by rw [z, hd] at h; cases h)]; exact h⟩)
  · exact .inr h
mutual
theorem un_rp (hd : H d = some (.frz od (.dK vs))) : ∀ {x : Vl} {v : V}, Rp K mg H μ N x v → Rp K mg (upd H d (.dK vs)) μ N x v
  | _, _, .non => .non
  | _, _, .bl b => .bl b
  | _, _, .int b => .int b
  | _, _, .str b => .str b
  | _, _, .tup h a => .tup (un_sq hd h) (un_all hd a)
  | _, _, .ref n h => .ref n h
  | _, _, .gl x a h => .gl x a h
  | _, _, .ty t => .ty t
  | _, _, .exc c h1 h2 => .exc c h1 (by rw [upd_ne (fun z => by rw [z, hd] at h2; cases h2)]; exact h2)
theorem un_all (hd : H d = some (.frz od (.dK vs))) : ∀ {x : List Vl} {v : List V}, RpAll K mg H μ N x v → RpAll K mg (upd H d (.dK vs)) μ N x v
  | _, _, .nil => .nil
  | _, _, .cons h a => .cons (un_rp hd h) (un_all hd a)
end
theorem un_k (hd : H d = some (.frz od (.dK vs))) {x : List (Vl × Vl)} {v : List (Key × V)} (h : RpK K mg H μ N x v) : RpK K mg (upd H d (.dK vs)) μ N x v := by
  induction h with
  | nil => exact .nil
  | cons k r _ ih => exact .cons k (un_rp hd r) ih
theorem un_f (hd : H d = some (.frz od (.dK vs))) {x : List (Str × Vl)} {v : List (Str × V)} (h : RpF K mg H μ N x v) : RpF K mg (upd H d (.dK vs)) μ N x v := by
  induction h with
  | nil => exact .nil
  | cons r _ ih => exact .cons (un_rp hd r) ih
theorem un_ob (hd : H d = some (.frz od (.dK vs))) {a : Addr} {ob : Ob} (ha : a ≠ d ∨ isMut ob = false) (h : ObR K mg H μ N a ob) : ObR K mg (upd H d (.dK vs)) μ N a ob := by
  match ob, h, ha with
  | .non, _, _ => trivial
  | .lst xs, ⟨ws, h1, h2⟩, ha =>
    have hn : a ≠ d := fun z => by rw [z, hd] at h1; cases h1
    exact ⟨ws, by rw [upd_ne hn]; exact h1, un_all hd h2⟩
  | .ro xs, ⟨ws, h1, h2⟩, ha =>
    refine ⟨ws, h1.imp (fun ⟨o, q⟩ => ⟨o, ?_⟩) id, un_all hd h2⟩
    have hn : a ≠ d := fun z => by rw [z, hd] at q; cases q
    rw [upd_ne hn]; exact q
  | .dic false kvs, ⟨ws, h1, h2⟩, ha =>
    have hn : a ≠ d := fun z => by rw [z, hd] at h1; cases h1
    exact ⟨ws, by rw [upd_ne hn]; exact h1, un_k hd h2⟩
  | .dic true kvs, ⟨o, ws, h1, h2⟩, ha =>
    have hn : a ≠ d := ha.elim id (fun z => by cases z)
    exact ⟨o, ws, by rw [upd_ne hn]; exact h1, un_k hd h2⟩
  | .ins c fs, ⟨C, dx, ws, h0, h1, h2⟩, ha =>
    have hn : a ≠ d := fun z => by rw [z, hd] at h1; cases h1
    exact ⟨C, dx, ws, h0, by rw [upd_ne hn]; exact h1, un_f hd h2⟩
theorem SRel.lock {k : Nat} {kvs : List (Vl × Vl)} (r : SRel K mg T H μ S) (hk : k < S.n) (hS : S.at_ k = .dic false kvs) (h1 : H (μ k) = some (.dK vs)) (h2 : RpK K mg H μ S.n kvs vs) : SRel K mg T (upd H (μ k) (.frz od (.dK vs))) μ (S.set k (.dic true kvs)) ∧ Ext H μ S.n (upd H (μ k) (.frz od (.dK vs))) μ S.n :=
  r.write (o := .frz od (.dK vs)) (ob := .dic true kvs) hk (by rw [hS]; rfl) rfl (by rw [h1]; intro _ z; cases z) (by rw [h1]; intro _ _ z; cases z) (by rw [h1]; intro _ z; cases z) (by rw [h1]; intro _ z; cases z) (fun ex => ⟨od, vs, upd_same, h2.ext ex⟩)
theorem SRel.unlock {k : Nat} {kvs : List (Vl × Vl)} (r : SRel K mg T H μ S) (hk : k < S.n) (hS : S.at_ k = .dic true kvs) (h1 : H (μ k) = some (.frz od (.dK vs))) : SRel K mg T (upd H (μ k) (.dK vs)) μ (S.set k (.dic false kvs)) := by
  refine ⟨fun n hn => ?_, fun n m hn hm e1 e2 e => ?_, tabs_upd r.tab (by rw [h1]; intro _ z; cases z) (by rw [h1]; intro _ z; cases z)⟩
  · rw [set_n] at hn ⊢
    by_cases q : n = k
    · subst q
      rw [set_same]
      have ob := r.at_ n hn
      rw [hS] at ob
      obtain ⟨o, ws, k1, k2⟩ := ob
      rw [h1] at k1
      cases k1
      exact ⟨vs, upd_same, un_k h1 k2⟩
    · rw [set_ne q]
      refine un_ob h1 ?_ (r.at_ n hn)
      by_cases z : μ n = μ k
      · cases mm : isMut (S.at_ n) with
        | true => exact absurd (r.inj n k hn hk mm (by rw [hS]; rfl) z) q
        | false => exact .inr rfl
      · exact .inl z
  · have e0 : ∀ j, isMut ((S.set k (.dic false kvs)).at_ j) = true → isMut (S.at_ j) = true := fun j hj => by
      by_cases q : j = k
      · rw [q, hS]; rfl
      · rw [set_ne q] at hj; exact hj
    exact r.inj n m hn hm (e0 n e1) (e0 m e2) e
/-- locked, gone on, unlocked -/
theorem ext_lock {H' : Hp} {μ' : Nat → Addr} {N' : Nat} (h1 : H d = some (.dK vs)) (e : Ext (upd H d (.frz od (.dK vs))) μ N H' μ' N') : H' d = some (.frz od (.dK vs)) ∧ Ext H μ N (upd H' d (.dK vs)) μ' N' := by
  refine ⟨e.frz _ _ _ upd_same, fun b xs q => ?_, fun b o u q => ?_, fun b u q => ?_, e.le, e.mu⟩
  · have hn : b ≠ d := fun z => by rw [z, h1] at q; cases q
    rw [upd_ne hn]; exact e.tup _ _ (by rw [upd_ne hn]; exact q)
  · have hn : b ≠ d := fun z => by rw [z, h1] at q; cases q
    rw [upd_ne hn]; exact e.frz _ _ _ (by rw [upd_ne hn]; exact q)
  · have hn : b ≠ d := fun z => by rw [z, h1] at q; cases q
    rw [upd_ne hn]; exact e.ext _ _ (by rw [upd_ne hn]; exact q)
end
/-- the dict of the slot i stands fast for a statement -/
def unl (n : Nat) (S : Sto) : Option Sto := match S.at_ n with
  | .dic true kvs => some (S.set n (.dic false kvs))
  | _ => none
def sLock (i : Nat) (b : MS) : MS := fun ρ S => match ρ[i]? with
  | some (some (.ref n)) => (match S.at_ n with
    | .dic false kvs => (match b ρ (S.set n (.dic true kvs)) with
      | some (.ex _ _ _, _, _) => none
      | some (fl, ρ', S') => (match unl n S' with | some S2 => some (fl, ρ', S2) | none => none)
      | none => none)
    | _ => none)
  | _ => none
def mLock (i : Nat) (b : En → M Vl) : En → M Vl := fun ρ S => match ρ[i]? with
  | some (some (.ref n)) => (match S.at_ n with
    | .dic false kvs => (match b ρ (S.set n (.dic true kvs)) with
      | some (.ok v, S') => (match unl n S' with | some S2 => some (.ok v, S2) | none => none)
      | _ => none)
    | _ => none)
  | _ => none
section
variable {X : Cx} {T : Tb} {W : WX} {pos : Pos}
theorem unl_eq {n : Nat} {S S2 : Sto} (h : unl n S = some S2) : ∃ kvs, S.at_ n = .dic true kvs ∧ S2 = S.set n (.dic false kvs) := by
  unfold unl at h
  split at h
  · rename_i kvs e; cases h; exact ⟨kvs, e, rfl⟩
  · cases h
theorem un_env {K : PySem.W.Frag} {mg : Str → Option Value} {H : Hp} {μ : Nat → Addr} {N : Nat} {d : Addr} {od : Obj} {vs : List (Key × V)} {ρ : En} {σ : L2.St} (hd : H d = some (.frz od (.dK vs))) (h : ERel K mg H μ N ρ σ) : ERel K mg (upd H d (.dK vs)) μ N ρ σ :=
  ⟨h.len, fun i v q => let ⟨x, h1, h2⟩ := h.at_ i v q; ⟨x, h1, un_rp hd h2⟩⟩
theorem ss_lock (i : Nat) {st : Stmt} {b : MS} (h : SS X T W st b) : SS X T W st (sLock i b) := by
  refine PS.imp (ps_lock h) fun D σ H q => ?_
  obtain ⟨ρ, μ, S, sr, er, q⟩ := q
  unfold sLock at q
  split at q
  · rename_i n hn
    obtain ⟨x, hx, rx⟩ := er.at_ _ _ hn
    cases rx with
    | ref n hn2 =>
    split at q
    · rename_i kvs hS
      have ob := sr.at_ n hn2
      rw [hS] at ob
      obtain ⟨vs, h1, h2⟩ := ob
      refine ⟨μ n, .dK vs, h1, trivial, fun od => ?_⟩
      have lk := sr.lock (od := od) hn2 hS h1 h2
      refine ⟨ρ, μ, S.set n (.dic true kvs), lk.1, er.ext lk.2, ?_⟩
      cases hb : b ρ (S.set n (.dic true kvs)) with
      | none => rw [hb] at q; exact q.elim
      | some p =>
        obtain ⟨fl, ρ', S'⟩ := p
        rw [hb] at q
        cases fl with
        | ex c f v => exact q.elim
        | nx =>
          simp only at q
          cases hu : unl n S' with
          | none => rw [hu] at q; exact q.elim
          | some S2 =>
            rw [hu] at q
            obtain ⟨ks, hk, rfl⟩ := unl_eq hu
            intro H' μ' σ' e' sr' er'
            have em : μ' n = μ n := e'.mu n hn2
            obtain ⟨l1, l2⟩ := ext_lock h1 e'
            have hn' : n < S'.n := Nat.lt_of_lt_of_le hn2 e'.le
            have un := sr'.unlock (od := od) (vs := vs) hn' hk (by rw [em]; exact l1)
            rw [em] at un
            exact ⟨l1, q _ μ' σ' l2 un (un_env l1 er')⟩
        | bk =>
          simp only at q
          cases hu : unl n S' with
          | none => rw [hu] at q; exact q.elim
          | some S2 =>
            rw [hu] at q
            obtain ⟨ks, hk, rfl⟩ := unl_eq hu
            intro H' μ' σ' e' sr' er'
            have em : μ' n = μ n := e'.mu n hn2
            obtain ⟨l1, l2⟩ := ext_lock h1 e'
            have hn' : n < S'.n := Nat.lt_of_lt_of_le hn2 e'.le
            have un := sr'.unlock (od := od) (vs := vs) hn' hk (by rw [em]; exact l1)
            rw [em] at un
            exact ⟨l1, q _ μ' σ' l2 un (un_env l1 er')⟩
        | ct =>
          simp only at q
          cases hu : unl n S' with
          | none => rw [hu] at q; exact q.elim
          | some S2 =>
            rw [hu] at q
            obtain ⟨ks, hk, rfl⟩ := unl_eq hu
            intro H' μ' σ' e' sr' er'
            have em : μ' n = μ n := e'.mu n hn2
            obtain ⟨l1, l2⟩ := ext_lock h1 e'
            have hn' : n < S'.n := Nat.lt_of_lt_of_le hn2 e'.le
            have un := sr'.unlock (od := od) (vs := vs) hn' hk (by rw [em]; exact l1)
            rw [em] at un
            exact ⟨l1, q _ μ' σ' l2 un (un_env l1 er')⟩
        | rt v =>
          simp only at q
          cases hu : unl n S' with
          | none => rw [hu] at q; exact q.elim
          | some S2 =>
            rw [hu] at q
            obtain ⟨ks, hk, rfl⟩ := unl_eq hu
            intro H' μ' σ' e' sr' er'
            have em : μ' n = μ n := e'.mu n hn2
            obtain ⟨l1, l2⟩ := ext_lock h1 e'
            have hn' : n < S'.n := Nat.lt_of_lt_of_le hn2 e'.le
            have un := sr'.unlock (od := od) (vs := vs) hn' hk (by rw [em]; exact l1)
            rw [em] at un
            exact ⟨l1, q _ μ' σ' l2 un (un_rp l1 er')⟩
    · exact q.elim
  · exact q.elim
theorem se_lock (i : Nat) {e : Expr} {b : En → M Vl} (h : SE X T W e b) : SE X T W e (mLock i b) := by
  refine PE.imp (pe_lock h) fun σ H Q q => ?_
  obtain ⟨ρ, μ, S, sr, er, q⟩ := q
  unfold mLock at q
  split at q
  · rename_i n hn
    obtain ⟨x, hx, rx⟩ := er.at_ _ _ hn
    cases rx with
    | ref n hn2 =>
    split at q
    · rename_i kvs hS
      have ob := sr.at_ n hn2
      rw [hS] at ob
      obtain ⟨vs, h1, h2⟩ := ob
      refine ⟨μ n, .dK vs, h1, trivial, fun od => ?_⟩
      have lk := sr.lock (od := od) hn2 hS h1 h2
      refine ⟨ρ, μ, S.set n (.dic true kvs), lk.1, er.ext lk.2, ?_⟩
      cases hb : b ρ (S.set n (.dic true kvs)) with
      | none => rw [hb] at q; exact q.elim
      | some p =>
        obtain ⟨r, S'⟩ := p
        rw [hb] at q
        cases r with
        | exc c f v => exact q.elim
        | ok v =>
          simp only at q
          cases hu : unl n S' with
          | none => rw [hu] at q; exact q.elim
          | some S2 =>
            rw [hu] at q
            obtain ⟨ks, hk, rfl⟩ := unl_eq hu
            intro H' μ' x e' sr' rx
            have em : μ' n = μ n := e'.mu n hn2
            obtain ⟨l1, l2⟩ := ext_lock h1 e'
            have hn' : n < S'.n := Nat.lt_of_lt_of_le hn2 e'.le
            have un := sr'.unlock (od := od) (vs := vs) hn' hk (by rw [em]; exact l1)
            rw [em] at un
            exact ⟨l1, q _ μ' x l2 un (un_rp l1 rx)⟩
    · exact q.elim
  · exact q.elim
/-- the keys of a dict that stands fast -/
def mItK (f : En → M Vl) : En → M Nxt := fun ρ => bnd (f ρ) fun v S => match v with
  | .ref n => (match S.at_ n with | .dic true kvs => some (.ok (nxT (kvs.map (·.1))), S) | _ => none)
  | _ => none
theorem itr_keys {K : PySem.W.Frag} {mg : Str → Option Value} {H₀ : Hp} {μ₀ : Nat → Addr} {N₀ : Nat} {d : Addr} {o : Obj} {kvs : List (Vl × Vl)} {vs : List (Key × V)} (h : H₀ d = some (.frz o (.dK vs))) (r : RpK K mg H₀ μ₀ N₀ kvs vs) : ItR K mg T H₀ μ₀ N₀ (nxT (kvs.map (·.1))) (Itk d o vs) := by
  have rk := r.keys
  refine ⟨fun i H μ S e sr q => ?_, fun i H μ S v e sr q => ?_, fun i H μ S v e sr q x H' y => ?_⟩
  · refine ⟨e.frz _ _ _ h, ?_⟩
    have := List.getElem?_eq_none_iff.mp (Option.some.inj q)
    rw [List.length_map, r.length] at this
    exact this
  · obtain ⟨u, h3, h4⟩ := rk.get (Option.some.inj q)
    have := (List.getElem?_eq_some_iff.mp h3).1
    rw [List.length_map] at this
    exact ⟨e.frz _ _ _ h, this⟩
  · obtain ⟨u, h3, h4⟩ := rk.get (Option.some.inj q)
    obtain ⟨rfl, k, w, hy, rfl⟩ := y
    rw [List.getElem?_map, hy] at h3
    cases h3
    exact ⟨Ext.refl, sr, h4.ext e⟩
theorem si_keys {tg e : Expr} {f : En → M Vl} (h : SE X T W e f) : SI X T W tg e (mItK f) := by
  refine PI.imp (pi_keys h) fun σ H R q => ?_
  obtain ⟨ρ, μ, S, sr, er, q⟩ := q
  refine ⟨ρ, μ, S, sr, er, Pst.bnd_ q fun v S1 H1 μ1 x e1 sr1 rx h1 => ?_⟩
  cases v with
  | ref n =>
    cases rx with
    | ref n hn =>
    have h1 : Pst X.K X.mg T (fun cls d H' => W cls d σ H') (fun H' μ' N' nx J => ItR X.K X.mg T H' μ' N' nx J) H1 μ1 S1.n (fun J H' => R J H') (match S1.at_ n with | .dic true kvs => some (.ok (nxT (kvs.map (·.1))), S1) | _ => none) := h1
    split at h1
    · rename_i kvs hS
      have ob := sr1.at_ n hn
      rw [hS] at ob
      obtain ⟨o, vs, k1, k2⟩ := ob
      exact ⟨μ1 n, o, rfl, .inl ⟨vs, k1, h1 H1 μ1 _ Ext.refl sr1 (itr_keys k1 k2)⟩⟩
    · exact h1.elim
  | _ => exact h1.elim
end

/-! ### list(range(n)) -/
def rngZ (n : Int) : List Vl := (List.range (n - 0).toNat).map fun i : Nat => Vl.int (0 + (i : Nat))
def mListR (f : En → M Vl) : En → M Vl := fun ρ => bnd (f ρ) fun v S => match v with
  | .int n => if 0 ≤ n ∧ n ≤ 16777216 then some (.ok (.ref S.n), S.push (.lst (rngZ n))) else none
  | _ => none
section
variable {X : Cx} {T : Tb} {W : WX} {pos p cpos cp : Pos}
theorem se_listR {a : Expr} {f : En → M Vl} (hc : X.calm = true) (hl : X.mg "list" = none) (hr : X.mg "range" = none) (ha : SE X T W a f) (hg1 : Gl X "list" := by rfl) (hg2 : Gl X "range" := by rfl) (na : starEach [a] X.env = (false, eval a X.env) :: starEach [] X.env := by rfl)
    (nb : starEach [.Call (.Name "range" p) [a] [] pos] X.env = (false, eval (.Call (.Name "range" p) [a] [] pos) X.env) :: starEach [] X.env := by rfl) : SE X T W (.Call (.Name "list" cp) [.Call (.Name "range" p) [a] [] pos] [] cpos) (mListR f) := by
  refine PE.imp (pe_listRg hc hg1 hl (prg_1 hg2 hr ha na) nb) fun σ H Q h => ?_
  obtain ⟨ρ, μ, S, sr, er, h⟩ := h
  refine ⟨ρ, μ, S, sr, er, Pst.bnd_ h fun v S1 H1 μ1 x e1 sr1 rx h1 => ?_⟩
  cases v with
  | int n =>
    cases rx
    have h1 : Pst X.K X.mg T (fun cls d H' => W cls d σ H') (rl X.K X.mg) H1 μ1 S1.n Q (if 0 ≤ n ∧ n ≤ 16777216 then some (.ok (.ref S1.n), S1.push (.lst (rngZ n))) else none) := h1
    by_cases hn : 0 ≤ n ∧ n ≤ 16777216
    · rw [if_pos hn] at h1
      refine ⟨n, rfl, .of_le (by decide) hn.2 (by decide) hn.1, fun q hq => ?_⟩
      have h2 : PstO X.K X.mg T (rl X.K X.mg) H1 μ1 S1.n Q (some (.ref S1.n, S1.push (.lst (rngZ n)))) := h1
      refine fin_lst h2 sr1 ?_ q hq
      unfold rngZ rgV
      generalize List.range (n - 0).toNat = l
      induction l with
      | nil => exact .nil
      | cons z zs ih => exact .cons (.int _) ih
    · rw [if_neg hn] at h1; exact h1.elim
  | _ => exact h1.elim
end

/-! ### defs with defaults -/
/-- a def with defaults, as the head tells it -/
def dOfD (x : Str) (st : Stmt) (dv : List He.Dv) : He.DefD := ⟨(x, none), x, x, defArgs st, defBody st, defScope st, dv, []⟩
structure FDd (K : PySem.W.Frag) (x : Str) (st : Stmt) (dv : List He.Dv) (fd : FuncData) (cdv : Value) : Prop where
  F : FunD K x x (defArgs st) (defBody st) (defScope st) (dv.map (He.Dv.v K)) [] (He.ga K x) fd
  tx : FD K x st (He.ga K x) fd cdv
theorem fdd_of {K : PySem.W.Frag} {fa : List He.Fa} {fn : List He.DefD} (c : He.SaysD fa fn K) {x : Str} {st : Stmt} {dv : List He.Dv} (hx : dOfD x st dv ∈ fn) : ∃ fd cdv, FDd K x st dv fd cdv := by
  obtain ⟨fd, F⟩ := c.defs hx
  have F0 := F
  obtain ⟨oc, od, dV, kV, doc, pm, an, cdv, ct, osl, e, lk, hcd, hD, hK⟩ := F.ex
  exact ⟨fd, cdv, F0, ⟨⟨oc, od, dV, kV, doc, pm, an, ct, osl, e, lk, hcd⟩, F.kp⟩⟩
section
variable {P : Program} {w : World} {K : PySem.W.Frag} {mg : Str → Option Value} {T : Tb} {base : Heap}
theorem FDd.cal {g : Bool} {x : Str} {st : Stmt} {dv : List He.Dv} {fd : FuncData} {cdv : Value} {ps : List Str} {k : Nat} {h : List Vl → M Vl} (F : FDd K x st dv fd cdv) (hm : mg x = some (.ref (He.ga K x))) (n j : Nat) (dl : List Vl) (hd : dv ≠ []) (hn : n + (dv.length - j) = ps.length)
    (hb : ∀ (T : Addr) (kV doc pm : Value) (an : Option Addr) (cdv ct : Value) (us its : List Value), us.length = n → its.length = dv.length →
      ∃ k, bindArgs (PySem.W.fnOf x x (defArgs st) (defBody st) (defScope st) (.ref T) kV doc pm an cdv ct) ⟨us, []⟩ = seqItems? (.ref T) >>= k ∧ k (some its.toArray) = pure (ps.zip (us ++ its.drop j)))
    (hv : ∀ H μ N, RpAll K mg H μ N dl ((dv.map (He.Dv.v K)).drop j))
    (ok : FnQ g P w K mg base k (He.ga K x) fd ps (spF K mg T ps.length h)) (hl : ∀ as S, as.length ≠ ps.length → h as S = none) : CalS g P w K mg T base k x dl h := by
  obtain ⟨ds, V, B⟩ := F.F.binds1 (ps := ps) n j (by simpa using hd) (by rw [List.length_map]; exact hn) (fun T kV doc pm an cdv ct us its l1 l2 => hb T kV doc pm an cdv ct us its l1 (by rw [l2, List.length_map]))
  exact ⟨_, fd, ps, ds, _, hm, F.F.kp, ok, hl, B, V, hv⟩
end
end Q

set_option linter.all false
set_option maxRecDepth 100000
set_option maxHeartbeats 4000000
namespace G
open PySem PySem.Spec PyProof.Rows L2 Q
def top (i : Nat) : Stmt := PySem.Challenge.pw_oneuseheads_k15_ends_of_kinds.main.body.getD i (.Pass ⟨0, 0, 0, 0⟩)
def k_MOST_ENDS : Vl := (.int 60)
def excs : List Str := ["BadEnd", "BadKind"]
def excSub : List (Str × Str) := [("BadEnd", "BadEnd"), ("BadKind", "BadKind")]
theorem bi_abs : bootBuiltins "abs" = some (.builtin "abs") := by decide +kernel
theorem bt_bool : bootBuiltins "bool" = some (.type "bool") := by decide +kernel
theorem bt_dict : bootBuiltins "dict" = some (.type "dict") := by decide +kernel
theorem bt_int : bootBuiltins "int" = some (.type "int") := by decide +kernel
theorem bi_isinstance : bootBuiltins "isinstance" = some (.builtin "isinstance") := by decide +kernel
theorem bi_len : bootBuiltins "len" = some (.builtin "len") := by decide +kernel
theorem bt_list : bootBuiltins "list" = some (.type "list") := by decide +kernel
theorem bi_min : bootBuiltins "min" = some (.builtin "min") := by decide +kernel
theorem bi_repr : bootBuiltins "repr" = some (.builtin "repr") := by decide +kernel
theorem bi_sorted : bootBuiltins "sorted" = some (.builtin "sorted") := by decide +kernel
theorem bt_str : bootBuiltins "str" = some (.type "str") := by decide +kernel
theorem bi_sum : bootBuiltins "sum" = some (.builtin "sum") := by decide +kernel
theorem bt_tuple : bootBuiltins "tuple" = some (.type "tuple") := by decide +kernel
noncomputable def b_is_whole (C L : Nat → List Vl → M Vl) : MS :=
    (sRet (mAndV (mBi bIsi (mCons (mSlot 0) (mCons (mC (.ty "int")) mNil))) (mNotV (mBi bIsi (mCons (mSlot 0) (mCons (mC (.ty "bool")) mNil))))))
noncomputable def b_is_word (C L : Nat → List Vl → M Vl) : MS :=
    (sSeq (sIf (mOr (mNot (mTst (mBi bIsi (mCons (mSlot 0) (mCons (mC (.ty "tuple")) mNil))))) (mTst (mBin bNe (mBi bLen (mCons (mSlot 0) mNil)) (mSlot 2))))
    (sRet (mC (.bl false)))
    sSkip)
    (sRet (mAndV (mBi bIsi (mCons (mBin bSub' (mSlot 0) (mC (.int 0))) (mCons (mC (.ty "str")) mNil))) (mBin bEq (mBin bSub' (mSlot 0) (mC (.int 0))) (mSlot 1)))))
noncomputable def b_is_kind (C L : Nat → List Vl → M Vl) : MS :=
    (sSeq (sPar [1, 2] (mCons (mLst (mCons (mSlot 0) mNil)) (mCons (mC (.int 0)) mNil)))
    (sSeq (sWhile (mTst (mBin bNe (mSlot 1) (mLst mNil)))
    (sSeq (sAsg (mMet "list" mtPop (mSlot 1) mNil) (gNm 3))
    (sSeq (sIf (mTst (mCall (C 1) [] (mCons (mSlot 3) (mCons (mC (.str "text")) (mCons (mC (.int 1)) mNil)))))
    (sAug 2 (mC (.int 1)) iAdd)
    (sIf (mTst (mCall (C 1) [] (mCons (mSlot 3) (mCons (mC (.str "to")) (mCons (mC (.int 3)) mNil)))))
    (sExp (mMet "list" mtExtend (mSlot 1) (mCons (mLst (mCons (mBin bSub' (mSlot 3) (mC (.int 2))) (mCons (mBin bSub' (mSlot 3) (mC (.int 1))) mNil))) mNil)))
    (sRet (mC (.bl false)))))
    (sIf (mTst (mBin bGt (mBin bAdd (mSlot 2) (mBi bLen (mCons (mSlot 1) mNil))) (mC k_MOST_ENDS)))
    (sRet (mC (.bl false)))
    sSkip))))
    (sRet (mC (.bl true)))))
noncomputable def b_need_kind (C L : Nat → List Vl → M Vl) : MS :=
    (sIf (mNot (mTst (mCall (C 2) [] (mCons (mSlot 0) mNil))))
    (sRaise "BadKind")
    sSkip)
noncomputable def b_arguments_of (C L : Nat → List Vl → M Vl) : MS :=
    (sSeq (sAsg (mLst mNil) (gNm 1))
    (sSeq (sWhile (mTst (mBin bEq (mBin bSub' (mSlot 0) (mC (.int 0))) (mC (.str "to"))))
    (sSeq (sExp (mMet "list" mtAppend (mSlot 1) (mCons (mBin bSub' (mSlot 0) (mC (.int 1))) mNil)))
    (sAsg (mBin bSub' (mSlot 0) (mC (.int 2))) (gNm 0))))
    (sRet (mBi bTuple (mCons (mSlot 1) mNil)))))
noncomputable def b_many_ends (C L : Nat → List Vl → M Vl) : MS :=
    (sRet (mBin bAdd (mC (.int 1)) (mBi bSum (mCons (mLc (mIt (mCall (C 4) [] (mCons (mSlot 0) mNil))) (.nm 1) mTrue (mCall (C 5) [] (mCons (mSlot 1) mNil)) [1]) mNil))))
noncomputable def b_signs_of (C L : Nat → List Vl → M Vl) : MS :=
    (sSeq (sIf (mTst (mBin bEq (mBin bSub' (mSlot 0) (mC (.int 0))) (mC (.str "text"))))
    (sRet (mLst (mCons (mSlot 1) mNil)))
    sSkip)
    (sRet (mBin bAdd (mCall (C 6) [] (mCons (mBin bSub' (mSlot 0) (mC (.int 1))) (mCons (mNotV (mSlot 1)) mNil))) (mCall (C 6) [] (mCons (mBin bSub' (mSlot 0) (mC (.int 2))) (mCons (mSlot 1) mNil))))))
noncomputable def b_signs (C L : Nat → List Vl → M Vl) : MS :=
    (sSeq (sExp (mCall (C 3) [] (mCons (mSlot 0) mNil)))
    (sRet (mBi bTuple (mCons (mCall (C 6) [.bl true] (mCons (mSlot 0) mNil)) mNil))))
noncomputable def b_add_parts (C L : Nat → List Vl → M Vl) : MS :=
    (sSeq (sPar [4, 5] (mCons (mSlot 1) (mCons (mLst mNil) mNil)))
    (sSeq (sFor (mIt (mCall (C 4) [] (mCons (mSlot 0) mNil))) (gNm 3)
    (sSeq (sExp (mMet "list" mtAppend (mSlot 5) (mCons (mCall (C 8) [] (mCons (mSlot 3) (mCons (mSlot 4) (mCons (mSlot 2) mNil)))) mNil)))
    (sAug 4 (mCall (C 5) [] (mCons (mSlot 3) mNil)) iAdd)))
    (sSeq (sAsg (mBi bTuple (mCons (mSlot 5) mNil)) (gSb (mSlot 2) (mSlot 4)))
    (sRet (mSlot 4)))))
noncomputable def b_parts_of_ends (C L : Nat → List Vl → M Vl) : MS :=
    (sSeq (sAsg mDict0 (gNm 1))
    (sSeq (sExp (mCall (C 8) [] (mCons (mSlot 0) (mCons (mC (.int 0)) (mCons (mSlot 1) mNil)))))
    (sRet (mBi bDictP (mCons (mLc (mIt (mBi bSortD (mCons (mSlot 1) mNil))) (.nm 2) mTrue (mTup (mCons (mSlot 2) (mCons (mBin bSub' (mSlot 1) (mSlot 2)) mNil))) [2]) mNil)))))
noncomputable def b_parts (C L : Nat → List Vl → M Vl) : MS :=
    (sSeq (sExp (mCall (C 3) [] (mCons (mSlot 0) mNil)))
    (sRet (mCall (C 9) [] (mCons (mSlot 0) mNil))))
noncomputable def b_is_end (C L : Nat → List Vl → M Vl) : MS :=
    (sRet (mAndV (mCall (C 0) [] (mCons (mSlot 1) mNil)) (mChain bLe bLt (mC (.int 0)) (mSlot 1) (mCall (C 5) [] (mCons (mSlot 0) mNil)))))
noncomputable def b_keeper (C L : Nat → List Vl → M Vl) : MS :=
    (sSeq (sExp (mCall (C 3) [] (mCons (mSlot 0) mNil)))
    (sSeq (sIf (mNot (mTst (mCall (C 11) [] (mCons (mSlot 0) (mCons (mSlot 1) mNil)))))
    (sRaise "BadEnd")
    sSkip)
    (sSeq (sAsg (mCall (C 9) [] (mCons (mSlot 0) mNil)) (gNm 2))
    (sSeq (sLock 2 (sFor (mItK (mSlot 2)) (gNm 3)
    (sIf (mTst (mBin (bInT false) (mSlot 1) (mBin bSub' (mSlot 2) (mSlot 3))))
    (sRet (mSlot 3))
    sSkip)))
    (sRet (mC .non))))))
noncomputable def b__law_begun (C L : Nat → List Vl → M Vl) : MS :=
    (sSeq (sAsg (mLc (mIt (mSlot 0)) (.nm 2) (mTst (mBin bGe (mBi bAbs (mCons (mSlot 2) mNil)) (mBin bPow (mC (.int 10)) (mC (.int 18))))) (mBin bSub (mBi bAbs (mCons (mSlot 2) mNil)) (mBin bPow (mC (.int 10)) (mC (.int 18)))) [2]) (gNm 1))
    (sRet (mDisp (((mC (.str "great")), (mSlot 1)) :: (((mC (.str "cells")), (mLc (mIt (mSlot 0)) (.nm 2) mTrue (mBi bAbs (mCons (mSlot 2) mNil)) [2])) :: (((mC (.str "rest")), (mC (.int 0))) :: (((mC (.str "turn")), (mC (.int 0))) :: [])))))))
noncomputable def b__law_blended (C L : Nat → List Vl → M Vl) : MS :=
    (sSeq (sPar [2, 3] (mCons (mBin bAdd (mBin bSub' (mSlot 0) (mC (.str "turn"))) (mC (.int 1))) (mCons (mC (.int 0)) mNil)))
    (sSeq (sAsg (mSlot 2) (gSb (mSlot 0) (mC (.str "turn"))))
    (sSeq (sFor (mIt (mLst (mCons (mC (.int 2147483579)) (mCons (mC (.int 2147483629)) (mCons (mC (.int 2147483563)) mNil))))) (gNm 1)
    (sSeq (sAsg (mBin bAdd (mBin bMul (mC (.int 48271)) (mSlot 2)) (mBin bDiv (mSlot 1) (mC (.int 53)))) (gNm 4))
    (sSeq (sFor (mIt (mBin bSub' (mSlot 0) (mC (.str "cells")))) (gNm 5)
    (sAsg (mBin bMod (mBi bInt (mCons (mBin bAdd (mBin bAdd (mBin bMul (mSlot 4) (mC (.int 69621))) (mSlot 5)) (mSlot 2)) mNil)) (mSlot 1)) (gNm 4)))
    (sAsg (mBin bAdd (mBin bMul (mSlot 3) (mC (.int 2147483647))) (mBin bMod (mBi bInt (mCons (mBin bPow (mSlot 4) (mC (.int 5))) mNil)) (mSlot 1))) (gNm 3)))))
    (sRet (mSlot 3)))))
noncomputable def b__law_draw (C L : Nat → List Vl → M Vl) : MS :=
    (sSeq (sIf (mTst (mBin bEq (mBin bSub' (mSlot 0) (mC (.str "rest"))) (mC (.int 0))))
    (sAsg (mIte (mTst (mBin bNe (mBin bSub' (mSlot 0) (mC (.str "great"))) (mLst mNil))) (mMet "list" mtPopAt (mBin bSub' (mSlot 0) (mC (.str "great"))) (mCons (mC (.int 0)) mNil)) (mCall (C 14) [] (mCons (mSlot 0) mNil))) (gSb (mSlot 0) (mC (.str "rest"))))
    sSkip)
    (sSeq (sAsg (mBin bMod (mBi bInt (mCons (mBin bSub' (mSlot 0) (mC (.str "rest"))) mNil)) (mSlot 1)) (gNm 2))
    (sSeq (sAsg (mBin bDiv (mBin bSub' (mSlot 0) (mC (.str "rest"))) (mSlot 1)) (gSb (mSlot 0) (mC (.str "rest"))))
    (sRet (mSlot 2)))))
noncomputable def b__law_pick (C L : Nat → List Vl → M Vl) : MS :=
    (sRet (mBin bSub' (mSlot 1) (mCall (C 15) [] (mCons (mSlot 0) (mCons (mBi bLen (mCons (mSlot 1) mNil)) mNil)))))
noncomputable def b__law_oh_same (C L : Nat → List Vl → M Vl) : MS :=
    (sRet (mBin bEq (mBi bRepr (mCons (mSlot 0) mNil)) (mBi bRepr (mCons (mSlot 1) mNil))))
noncomputable def b__law_hd_size (C L : Nat → List Vl → M Vl) : MS :=
    (sRet (mIte (mTst (mBin bEq (mBin bSub' (mSlot 0) (mC (.int 0))) (mC (.str "text")))) (mC (.int 1)) (mBin bAdd (mCall (C 19) [] (mCons (mBin bSub' (mSlot 0) (mC (.int 1))) mNil)) (mCall (C 19) [] (mCons (mBin bSub' (mSlot 0) (mC (.int 2))) mNil)))))
noncomputable def b__law_hd_wanted (C L : Nat → List Vl → M Vl) : MS :=
    (sSeq (sAsg (mLst mNil) (gNm 1))
    (sSeq (sWhile (mTst (mBin bEq (mBin bSub' (mSlot 0) (mC (.int 0))) (mC (.str "to"))))
    (sSeq (sExp (mMet "list" mtAppend (mSlot 1) (mCons (mBin bSub' (mSlot 0) (mC (.int 1))) mNil)))
    (sAsg (mBin bSub' (mSlot 0) (mC (.int 2))) (gNm 0))))
    (sRet (mSlot 1))))
noncomputable def b__law_hd_signs (C L : Nat → List Vl → M Vl) : MS :=
    (sSeq (sIf (mTst (mBin bEq (mBin bSub' (mSlot 0) (mC (.int 0))) (mC (.str "text"))))
    (sRet (mLst (mCons (mC (.bl true)) mNil)))
    sSkip)
    (sRet (mBin bAdd (mLc (mIt (mCall (C 21) [] (mCons (mBin bSub' (mSlot 0) (mC (.int 1))) mNil))) (.nm 1) mTrue (mNotV (mSlot 1)) [1]) (mCall (C 21) [] (mCons (mBin bSub' (mSlot 0) (mC (.int 2))) mNil)))))
noncomputable def b__law_hd_parts (C L : Nat → List Vl → M Vl) : MS :=
    (sSeq (sPar [4, 5] (mCons (mSlot 1) (mCons (mLst mNil) mNil)))
    (sSeq (sFor (mIt (mCall (C 20) [] (mCons (mSlot 0) mNil))) (gNm 3)
    (sSeq (sExp (mCall (C 22) [] (mCons (mSlot 3) (mCons (mSlot 4) (mCons (mSlot 2) mNil)))))
    (sSeq (sAsg (mBin bAdd (mSlot 4) (mCall (C 19) [] (mCons (mSlot 3) mNil))) (gNm 4))
    (sExp (mMet "list" mtAppend (mSlot 5) (mCons (mBin bSub (mSlot 4) (mC (.int 1))) mNil))))))
    (sSeq (sAsg (mTup (mCons (mSlot 5) (mCons (mSlot 0) mNil))) (gSb (mSlot 2) (mSlot 4)))
    (sRet (mSlot 2)))))
noncomputable def b__law_hd_any_kind (C L : Nat → List Vl → M Vl) : MS :=
    (sSeq (sIf (mOr (mTst (mBin bEq (mSlot 1) (mC (.int 0)))) (mTst (mBin bEq (mCall (C 15) [] (mCons (mSlot 0) (mCons (mC (.int 3)) mNil))) (mC (.int 0)))))
    (sRet (mTup (mCons (mC (.str "text")) mNil)))
    sSkip)
    (sRet (mTup (mCons (mC (.str "to")) (mCons (mCall (C 23) [] (mCons (mSlot 0) (mCons (mBin bSub (mSlot 1) (mC (.int 1))) mNil))) (mCons (mCall (C 23) [] (mCons (mSlot 0) (mCons (mBin bSub (mSlot 1) (mC (.int 1))) mNil))) mNil))))))
noncomputable def b__law_hd_bad_kind (C L : Nat → List Vl → M Vl) : MS :=
    (sSeq (sAsg (mLst (mCons (mC .non) (mCons (mC (.int 5)) (mCons (mC (.str "text")) (mCons (mTup mNil) (mCons (mTup (mCons (mC (.str "text")) (mCons (mC (.int 1)) mNil))) (mCons (mLst (mCons (mC (.str "text")) mNil)) (mCons (mTup (mCons (mC (.str "to")) (mCons (mTup (mCons (mC (.str "text")) mNil)) mNil))) (mCons (mTup (mCons (mC (.str "to")) (mCons (mTup (mCons (mC (.str "text")) mNil)) (mCons (mC .non) mNil)))) (mCons (mTup (mCons (mC (.str "from")) (mCons (mTup (mCons (mC (.str "text")) mNil)) (mCons (mTup (mCons (mC (.str "text")) mNil)) mNil)))) mNil)))))))))) (gNm 1))
    (sSeq (sAsg (mTup (mCons (mC (.str "text")) mNil)) (gNm 2))
    (sSeq (sFor (mItR1 (mCons (mC (.int 60)) mNil)) (gNm 3)
    (sAsg (mTup (mCons (mC (.str "to")) (mCons (mTup (mCons (mC (.str "text")) mNil)) (mCons (mSlot 2) mNil)))) (gNm 2)))
    (sRet (mCall (C 16) [] (mCons (mSlot 0) (mCons (mBin bAdd (mSlot 1) (mLst (mCons (mSlot 2) (mCons (mTup (mCons (mC (.str "to")) (mCons (mLst (mCons (mC (.str "text")) mNil)) (mCons (mTup (mCons (mC (.str "text")) mNil)) mNil)))) (mCons (mTup (mCons (mC (.str "to")) (mCons (mTup (mCons (mC (.str "text")) mNil)) (mCons (mTup (mCons (mC (.str "text")) mNil)) (mCons (mTup (mCons (mC (.str "text")) mNil)) mNil))))) (mCons (mTup (mCons (mTup (mCons (mC (.str "text")) mNil)) mNil)) (mCons (mC (.bl true)) mNil))))))) mNil)))))))
noncomputable def b__law_k15_kind (C L : Nat → List Vl → M Vl) : MS :=
    (sSeq (sIf (mTst (mBin bEq (mCall (C 15) [] (mCons (mSlot 0) (mCons (mC (.int 4)) mNil))) (mC (.int 0))))
    (sSeq (sAsg (mTup (mCons (mC (.str "text")) mNil)) (gNm 1))
    (sSeq (sFor (mItR1 (mCons (mCall (C 16) [] (mCons (mSlot 0) (mCons (mLst (mCons (mC (.int 59)) (mCons (mC (.int 30)) (mCons (mC (.int 20)) mNil)))) mNil))) mNil)) (gNm 2)
    (sAsg (mIte (mTst (mBin bEq (mCall (C 15) [] (mCons (mSlot 0) (mCons (mC (.int 2)) mNil))) (mC (.int 0)))) (mTup (mCons (mC (.str "to")) (mCons (mSlot 1) (mCons (mTup (mCons (mC (.str "text")) mNil)) mNil)))) (mTup (mCons (mC (.str "to")) (mCons (mTup (mCons (mC (.str "text")) mNil)) (mCons (mSlot 1) mNil))))) (gNm 1)))
    (sRet (mSlot 1))))
    sSkip)
    (sRet (mCall (C 23) [] (mCons (mSlot 0) (mCons (mC (.int 5)) mNil)))))
noncomputable def b__law_k15_right (C L : Nat → List Vl → M Vl) : MS :=
    (sSeq (sAsg (mLc (mIt (mCall (C 21) [] (mCons (mSlot 0) mNil))) (.nm 6) mTrue (mBi bBool (mCons (mSlot 6) mNil)) [6]) (gNm 1))
    (sSeq (sAsg (mTup (mCons (mCall (C 22) [] (mCons (mSlot 0) (mCons (mC (.int 0)) (mCons mDict0 mNil)))) (mCons (mCallK (C 10) [0] (mCons (mSlot 0) mNil)) mNil))) (gTp ((gNm 3) :: ((gNm 4) :: []))))
    (sSeq (sIf (mOr (mNot (mTst (mCall (C 18) [] (mCons (mCallK (C 7) [0] (mCons (mSlot 0) mNil)) (mCons (mBi bTuple (mCons (mSlot 1) mNil)) mNil))))) (mTst (mBin bNe (mBi bListD (mCons (mSlot 4) mNil)) (mListR (mBi bLen (mCons (mSlot 1) mNil))))))
    (sRet (mC (.bl false)))
    sSkip)
    (sSeq (sFor (mItR1 (mCons (mBi bLen (mCons (mSlot 1) mNil)) mNil)) (gNm 2)
    (sSeq (sIf (mOr (mNot (mTst (mCall (C 18) [] (mCons (mBin bSub' (mSlot 4) (mSlot 2)) (mCons (mBi bTuple (mCons (mBin bSub' (mBin bSub' (mSlot 3) (mSlot 2)) (mC (.int 0))) mNil)) mNil))))) (mTst (mBin bNe (mLc (mIt (mBin bSub' (mSlot 4) (mSlot 2))) (.nm 7) (mTst (mBin bEq (mBin bSub' (mSlot 1) (mSlot 7)) (mBin bSub' (mSlot 1) (mSlot 2)))) (mC (.int 1)) [7]) (mLst mNil))))
    (sRet (mC (.bl false)))
    sSkip)
    (sSeq (sLock 4 (sAsg (mLc (mItK (mSlot 4)) (.nm 6) (mTst (mBin (bInT false) (mSlot 2) (mBin bSub' (mSlot 4) (mSlot 6)))) (mSlot 6) [6]) (gNm 5)))
    (sIf (mOr (mNot (mTst (mCall (C 18) [] (mCons (mLst (mCons (mCallK (C 12) [0, 1] (mCons (mSlot 0) (mCons (mSlot 2) mNil))) mNil)) (mCons (mIte (mTst (mBin bLt (mSlot 2) (mBin bSub (mBi bLen (mCons (mSlot 1) mNil)) (mC (.int 1))))) (mSlot 5) (mLst (mCons (mC .non) mNil))) mNil))))) (mTst (mBin bGt (mBi bLen (mCons (mSlot 5) mNil)) (mC (.int 1)))))
    (sRet (mC (.bl false)))
    sSkip))))
    (sSeq (sExp (mMet "dict" mtClear (mSlot 4) mNil))
    (sRet (mBin bEq (mBi bLen (mCons (mCall (C 10) [] (mCons (mSlot 0) mNil)) mNil)) (mBi bLen (mCons (mSlot 1) mNil)))))))))
noncomputable def b_law (C L : Nat → List Vl → M Vl) : MS :=
    (sSeq (sAsg (mCall (C 13) [] (mCons (mSlot 0) mNil)) (gNm 1))
    (sSeq (sFor (mItR1 (mCons (mBin bAdd (mC (.int 2)) (mBi bMin2 (mCons (mBi bLen (mCons (mSlot 0) mNil)) (mCons (mC (.int 4)) mNil)))) mNil)) (gNm 2)
    (sSeq (sAsg (mCall (C 25) [] (mCons (mSlot 1) mNil)) (gNm 4))
    (sIf (mAnd (mTst (mBin bLe (mCall (C 19) [] (mCons (mSlot 4) mNil)) (mC (.int 60)))) (mNot (mTst (mCall (C 26) [] (mCons (mSlot 4) mNil)))))
    (sRet (mC (.bl false)))
    sSkip)))
    (sSeq (sAsg (mTup (mCons (mCall (C 24) [] (mCons (mSlot 1) mNil)) (mCons (mCall (C 16) [] (mCons (mSlot 1) (mCons (mLst (mCons (mC .non) (mCons (mNeg (mC (.int 1))) (mCons (mC (.int 60)) (mCons (mC (.bl true)) (mCons (mC (.str "0")) (mCons (mTup (mCons (mC (.int 0)) mNil)) (mCons (mCall (C 19) [] (mCons (mSlot 4) mNil)) mNil)))))))) mNil))) mNil))) (gTp ((gNm 5) :: ((gNm 6) :: []))))
    (sSeq (sAsg (mLst (mCons (mBi (bIsE excSub excs) (mCons (mCaught excs (mCall (L 7) [] (mCons (mSlot 5) mNil))) (mCons (mC (.gl "BadKind")) mNil))) (mCons (mBi (bIsE excSub excs) (mCons (mCaught excs (mCall (L 10) [] (mCons (mSlot 5) mNil))) (mCons (mC (.gl "BadKind")) mNil))) (mCons (mBi (bIsE excSub excs) (mCons (mCaught excs (mCall (L 12) [] (mCons (mSlot 5) (mCons (mSlot 6) mNil)))) (mCons (mC (.gl "BadKind")) mNil))) mNil)))) (gNm 3))
    (sSeq (sIf (mTst (mBin bLe (mCall (C 19) [] (mCons (mSlot 4) mNil)) (mC (.int 60))))
    (sExp (mMet "list" mtAppend (mSlot 3) (mCons (mBi (bIsE excSub excs) (mCons (mCaught excs (mCall (L 12) [] (mCons (mSlot 4) (mCons (mSlot 6) mNil)))) (mCons (mC (.gl "BadEnd")) mNil))) mNil)))
    sSkip)
    (sRet (mBin (bIn true) (mC (.bl false)) (mSlot 3))))))))
structure Gs (K : PySem.W.Frag) (mg : Str → Option Value) : Prop where
  b_abs : mg "abs" = none
  b_bool : mg "bool" = none
  b_dict : mg "dict" = none
  b_int : mg "int" = none
  b_isinstance : mg "isinstance" = none
  b_len : mg "len" = none
  b_list : mg "list" = none
  b_min : mg "min" = none
  b_range : mg "range" = none
  b_repr : mg "repr" = none
  b_sorted : mg "sorted" = none
  b_str : mg "str" = none
  b_sum : mg "sum" = none
  b_tuple : mg "tuple" = none
  c_MOST_ENDS : Cst K mg "MOST_ENDS" k_MOST_ENDS
  v_BadKind : ∃ a, mg "BadKind" = some (.ref a)
  v_BadEnd : ∃ a, mg "BadEnd" = some (.ref a)
  e_BadEnd : ExcS K mg "BadEnd" [.type "ValueError", .type "Exception", .type "BaseException", .type "object"] "ValueError.__new__"
  e_BadKind : ExcS K mg "BadKind" [.type "ValueError", .type "Exception", .type "BaseException", .type "object"] "ValueError.__new__"
  caught : CaughtS K mg "_law_caught" excs
  excs : ExcCs K mg excSub excs
structure Oks (P : Program) (w : World) (K : PySem.W.Frag) (mg : Str → Option Value) (T : Tb) (base : Heap) (k : Nat) (C : Nat → List Vl → M Vl) : Prop where
  f_is_whole : CalS false P w K mg T base k "is_whole" [] (C 0)
  f_is_word : CalS false P w K mg T base k "is_word" [] (C 1)
  f_is_kind : CalS false P w K mg T base k "is_kind" [] (C 2)
  f_need_kind : CalS false P w K mg T base k "need_kind" [] (C 3)
  f_arguments_of : CalS false P w K mg T base k "arguments_of" [] (C 4)
  f_many_ends : CalS false P w K mg T base k "many_ends" [] (C 5)
  f_signs_of : CalS false P w K mg T base k "signs_of" [] (C 6)
  d_signs_of_1 : CalS false P w K mg T base k "signs_of" [.bl true] (C 6)
  f_signs : CalS false P w K mg T base k "signs" [] (C 7)
  k_signs_kind : CalK false P w K mg T base k "signs" ["kind"] [0] (C 7)
  f_add_parts : CalS false P w K mg T base k "add_parts" [] (C 8)
  f_parts_of_ends : CalS false P w K mg T base k "parts_of_ends" [] (C 9)
  f_parts : CalS false P w K mg T base k "parts" [] (C 10)
  k_parts_kind : CalK false P w K mg T base k "parts" ["kind"] [0] (C 10)
  f_is_end : CalS false P w K mg T base k "is_end" [] (C 11)
  f_keeper : CalS false P w K mg T base k "keeper" [] (C 12)
  k_keeper_kind_end : CalK false P w K mg T base k "keeper" ["kind", "end"] [0, 1] (C 12)
  f__law_begun : CalS false P w K mg T base k "_law_begun" [] (C 13)
  f__law_blended : CalS false P w K mg T base k "_law_blended" [] (C 14)
  f__law_draw : CalS false P w K mg T base k "_law_draw" [] (C 15)
  f__law_pick : CalS false P w K mg T base k "_law_pick" [] (C 16)
  f__law_oh_same : CalS true P w K mg T base k "_law_oh_same" [] (C 18)
  f__law_hd_size : CalS false P w K mg T base k "_law_hd_size" [] (C 19)
  f__law_hd_wanted : CalS false P w K mg T base k "_law_hd_wanted" [] (C 20)
  f__law_hd_signs : CalS false P w K mg T base k "_law_hd_signs" [] (C 21)
  f__law_hd_parts : CalS false P w K mg T base k "_law_hd_parts" [] (C 22)
  f__law_hd_any_kind : CalS false P w K mg T base k "_law_hd_any_kind" [] (C 23)
  f__law_hd_bad_kind : CalS false P w K mg T base k "_law_hd_bad_kind" [] (C 24)
  f__law_k15_kind : CalS false P w K mg T base k "_law_k15_kind" [] (C 25)
  f__law_k15_right : CalS true P w K mg T base k "_law_k15_right" [] (C 26)
  f_law : CalS true P w K mg T base k "law" [] (C 27)
noncomputable def step (C L : Nat → List Vl → M Vl) : Nat → List Vl → M Vl
  | 0 => runF 1 1 (b_is_whole C L)
  | 1 => runF 3 3 (b_is_word C L)
  | 2 => runF 4 1 (b_is_kind C L)
  | 3 => runF 1 1 (b_need_kind C L)
  | 4 => runF 2 1 (b_arguments_of C L)
  | 5 => runF 2 1 (b_many_ends C L)
  | 6 => runF 2 2 (b_signs_of C L)
  | 7 => runF 1 1 (b_signs C L)
  | 8 => runF 6 3 (b_add_parts C L)
  | 9 => runF 3 1 (b_parts_of_ends C L)
  | 10 => runF 1 1 (b_parts C L)
  | 11 => runF 2 2 (b_is_end C L)
  | 12 => runF 4 2 (b_keeper C L)
  | 13 => runF 3 1 (b__law_begun C L)
  | 14 => runF 6 1 (b__law_blended C L)
  | 15 => runF 3 2 (b__law_draw C L)
  | 16 => runF 2 2 (b__law_pick C L)
  | 18 => runF 2 2 (b__law_oh_same C L)
  | 19 => runF 1 1 (b__law_hd_size C L)
  | 20 => runF 2 1 (b__law_hd_wanted C L)
  | 21 => runF 2 1 (b__law_hd_signs C L)
  | 22 => runF 6 3 (b__law_hd_parts C L)
  | 23 => runF 2 2 (b__law_hd_any_kind C L)
  | 24 => runF 4 1 (b__law_hd_bad_kind C L)
  | 25 => runF 3 1 (b__law_k15_kind C L)
  | 26 => runF 8 1 (b__law_k15_right C L)
  | 27 => runF 7 1 (b_law C L)
  | _ => fun _ _ => none
def zero : Nat → List Vl → M Vl := fun _ _ _ => none
noncomputable def lev : Nat → (Nat → List Vl → M Vl) × (Nat → List Vl → M Vl) × (Nat → List Vl → M Vl)
  | 0 => (zero, zero, zero)
  | n + 1 => (step (lev n).1 (lev n).2.2, (lev n).1, (lev n).2.1)
theorem lv_is_whole (n : Nat) : (lev (n + 1)).1 0 = runF 1 1 (b_is_whole (lev n).1 (lev n).2.2) := rfl
theorem lv_is_word (n : Nat) : (lev (n + 1)).1 1 = runF 3 3 (b_is_word (lev n).1 (lev n).2.2) := rfl
theorem lv_is_kind (n : Nat) : (lev (n + 1)).1 2 = runF 4 1 (b_is_kind (lev n).1 (lev n).2.2) := rfl
theorem lv_need_kind (n : Nat) : (lev (n + 1)).1 3 = runF 1 1 (b_need_kind (lev n).1 (lev n).2.2) := rfl
theorem lv_arguments_of (n : Nat) : (lev (n + 1)).1 4 = runF 2 1 (b_arguments_of (lev n).1 (lev n).2.2) := rfl
theorem lv_many_ends (n : Nat) : (lev (n + 1)).1 5 = runF 2 1 (b_many_ends (lev n).1 (lev n).2.2) := rfl
theorem lv_signs_of (n : Nat) : (lev (n + 1)).1 6 = runF 2 2 (b_signs_of (lev n).1 (lev n).2.2) := rfl
theorem lv_signs (n : Nat) : (lev (n + 1)).1 7 = runF 1 1 (b_signs (lev n).1 (lev n).2.2) := rfl
theorem lv_add_parts (n : Nat) : (lev (n + 1)).1 8 = runF 6 3 (b_add_parts (lev n).1 (lev n).2.2) := rfl
theorem lv_parts_of_ends (n : Nat) : (lev (n + 1)).1 9 = runF 3 1 (b_parts_of_ends (lev n).1 (lev n).2.2) := rfl
theorem lv_parts (n : Nat) : (lev (n + 1)).1 10 = runF 1 1 (b_parts (lev n).1 (lev n).2.2) := rfl
theorem lv_is_end (n : Nat) : (lev (n + 1)).1 11 = runF 2 2 (b_is_end (lev n).1 (lev n).2.2) := rfl
theorem lv_keeper (n : Nat) : (lev (n + 1)).1 12 = runF 4 2 (b_keeper (lev n).1 (lev n).2.2) := rfl
theorem lv__law_begun (n : Nat) : (lev (n + 1)).1 13 = runF 3 1 (b__law_begun (lev n).1 (lev n).2.2) := rfl
theorem lv__law_blended (n : Nat) : (lev (n + 1)).1 14 = runF 6 1 (b__law_blended (lev n).1 (lev n).2.2) := rfl
theorem lv__law_draw (n : Nat) : (lev (n + 1)).1 15 = runF 3 2 (b__law_draw (lev n).1 (lev n).2.2) := rfl
theorem lv__law_pick (n : Nat) : (lev (n + 1)).1 16 = runF 2 2 (b__law_pick (lev n).1 (lev n).2.2) := rfl
theorem lv__law_oh_same (n : Nat) : (lev (n + 1)).1 18 = runF 2 2 (b__law_oh_same (lev n).1 (lev n).2.2) := rfl
theorem lv__law_hd_size (n : Nat) : (lev (n + 1)).1 19 = runF 1 1 (b__law_hd_size (lev n).1 (lev n).2.2) := rfl
theorem lv__law_hd_wanted (n : Nat) : (lev (n + 1)).1 20 = runF 2 1 (b__law_hd_wanted (lev n).1 (lev n).2.2) := rfl
theorem lv__law_hd_signs (n : Nat) : (lev (n + 1)).1 21 = runF 2 1 (b__law_hd_signs (lev n).1 (lev n).2.2) := rfl
theorem lv__law_hd_parts (n : Nat) : (lev (n + 1)).1 22 = runF 6 3 (b__law_hd_parts (lev n).1 (lev n).2.2) := rfl
theorem lv__law_hd_any_kind (n : Nat) : (lev (n + 1)).1 23 = runF 2 2 (b__law_hd_any_kind (lev n).1 (lev n).2.2) := rfl
theorem lv__law_hd_bad_kind (n : Nat) : (lev (n + 1)).1 24 = runF 4 1 (b__law_hd_bad_kind (lev n).1 (lev n).2.2) := rfl
theorem lv__law_k15_kind (n : Nat) : (lev (n + 1)).1 25 = runF 3 1 (b__law_k15_kind (lev n).1 (lev n).2.2) := rfl
theorem lv__law_k15_right (n : Nat) : (lev (n + 1)).1 26 = runF 8 1 (b__law_k15_right (lev n).1 (lev n).2.2) := rfl
theorem lv_law (n : Nat) : (lev (n + 1)).1 27 = runF 7 1 (b_law (lev n).1 (lev n).2.2) := rfl
theorem lv_lam (n : Nat) : (lev (n + 2)).2.2 = (lev n).1 := rfl
section
variable {P : Program} {w : World} {K : PySem.W.Frag} {mg : Str → Option Value} {T : Tb} {base : Heap} {n : Nat} {C L : Nat → List Vl → M Vl}
abbrev st_is_whole : Stmt := top 6
theorem sc_is_whole : FnScope ["value"] ["value"] (defScope st_is_whole) := C8.fnScope_by (by decide +kernel)
theorem ok_is_whole (G : Gs K mg) (hA : Oks P w K mg T base (n + 2) C) (hL : Oks P w K mg T base n L) {f : Addr} {fd : FuncData} {cdv : Value} (F : FD K "is_whole" st_is_whole f fd cdv) :
    FnQ false P w K mg base (n + 3) f fd ["value"] (spF K mg T 1 (runF 1 1 (b_is_whole C L))) :=
  fn_ok (N := ["value"]) F sc_is_whole fun A outer s H E fc => by
    exact (sss_one (ss_ret (se_and (se_bi cs_isi G.b_isinstance bi_isinstance (sa_cons (se_slot 0) (sa_cons (se_bty G.b_int bt_int) sa_nil))) (se_one (se_not (se_bi cs_isi G.b_isinstance bi_isinstance (sa_cons (se_slot 0) (sa_cons (se_bty G.b_bool bt_bool) sa_nil))))))))
abbrev st_is_word : Stmt := top 7
theorem sc_is_word : FnScope ["value", "word", "size"] ["value", "word", "size"] (defScope st_is_word) := C8.fnScope_by (by decide +kernel)
theorem ok_is_word (G : Gs K mg) (hA : Oks P w K mg T base (n + 2) C) (hL : Oks P w K mg T base n L) {f : Addr} {fd : FuncData} {cdv : Value} (F : FD K "is_word" st_is_word f fd cdv) :
    FnQ false P w K mg base (n + 3) f fd ["value", "word", "size"] (spF K mg T 3 (runF 3 3 (b_is_word C L))) :=
  fn_ok (N := ["value", "word", "size"]) F sc_is_word fun A outer s H E fc => by
    exact (sss_cons (ss_if (st_w (sw_or (st_not (st_val (se_bi cs_isi G.b_isinstance bi_isinstance (sa_cons (se_slot 0) (sa_cons (se_bty G.b_tuple bt_tuple) sa_nil))))) (sw_or1 (st_cmp (os_ne fc.u64) (se_bi cs_len G.b_len bi_len (sa_cons (se_slot 0) sa_nil)) (se_slot 2)))))
    (sss_one (ss_ret se_bl))
    sss_nil)
    (sss_one (ss_ret (se_and (se_bi cs_isi G.b_isinstance bi_isinstance (sa_cons (se_sub fc.u1 (se_slot 0) se_int) (sa_cons (se_bty G.b_str bt_str) sa_nil))) (se_one (se_cmp (os_eq fc.u64) (se_sub fc.u1 (se_slot 0) se_int) (se_slot 1)))))))
abbrev st_is_kind : Stmt := top 8
theorem sc_is_kind : FnScope ["value", "left", "many", "one"] ["value"] (defScope st_is_kind) := C8.fnScope_by (by decide +kernel)
theorem ok_is_kind (G : Gs K mg) (hA : Oks P w K mg T base (n + 2) C) (hL : Oks P w K mg T base n L) {f : Addr} {fd : FuncData} {cdv : Value} (F : FD K "is_kind" st_is_kind f fd cdv) :
    FnQ false P w K mg base (n + 3) f fd ["value"] (spF K mg T 1 (runF 4 1 (b_is_kind C L))) :=
  fn_ok (N := ["value", "left", "many", "one"]) F sc_is_kind fun A outer s H E fc => by
    exact (sss_cons (ss_par 1 2 fc.calm fc.nd (sa_cons (se_lst (sa_cons (se_slot 0) sa_nil)) (sa_cons se_int sa_nil)) (by rfl))
    (sss_cons (ss_while fc.po (st_cmp (os_ne fc.u64) (se_slot 1) (se_lst sa_nil))
    (sss_cons (ss_set 3 fc.nd (se_met0 PySem.F.plainAttrs_list PySem.F.slot_list_pop PySem.F.type_list_pop ms_pop (se_slot 1)))
    (sss_cons (ss_if (st_val (se_call hA.f_is_word fc.hr (fun z => by cases z) fc.tk (sa_cons (se_slot 3) (sa_cons se_str (sa_cons se_int sa_nil)))))
    (sss_one (ss_aug 2 fc.nd se_int (ip_of os_iadd)))
    (sss_one (ss_if (st_val (se_call hA.f_is_word fc.hr (fun z => by cases z) fc.tk (sa_cons (se_slot 3) (sa_cons se_str (sa_cons se_int sa_nil)))))
    (sss_one (ss_exp (se_met PySem.F.plainAttrs_list PySem.F.slot_list_extend PySem.F.type_list_extend ms_extend (se_slot 1) (sa_cons (se_lst (sa_cons (se_sub fc.u1 (se_slot 3) se_int) (sa_cons (se_sub fc.u1 (se_slot 3) se_int) sa_nil))) sa_nil))))
    (sss_one (ss_ret se_bl)))))
    (sss_one (ss_if (st_cmp os_gt (se_bin os_add (se_slot 2) (se_bi cs_len G.b_len bi_len (sa_cons (se_slot 1) sa_nil))) (se_cst rfl G.c_MOST_ENDS))
    (sss_one (ss_ret se_bl))
    sss_nil)))))
    (sss_one (ss_ret se_bl))))
abbrev st_need_kind : Stmt := top 9
theorem sc_need_kind : FnScope ["value"] ["value"] (defScope st_need_kind) := C8.fnScope_by (by decide +kernel)
theorem ok_need_kind (G : Gs K mg) (hA : Oks P w K mg T base (n + 2) C) (hL : Oks P w K mg T base n L) {f : Addr} {fd : FuncData} {cdv : Value} (F : FD K "need_kind" st_need_kind f fd cdv) :
    FnQ false P w K mg base (n + 3) f fd ["value"] (spF K mg T 1 (runF 1 1 (b_need_kind C L))) :=
  fn_ok (N := ["value"]) F sc_need_kind fun A outer s H E fc => by
    exact (sss_one (ss_if (st_not (st_val (se_call hA.f_is_kind fc.hr (fun z => by cases z) fc.tk (sa_cons (se_slot 0) sa_nil))))
    (sss_one (ss_raise fc.calm fc.tk G.e_BadKind))
    sss_nil))
abbrev st_arguments_of : Stmt := top 10
theorem sc_arguments_of : FnScope ["kind", "found"] ["kind"] (defScope st_arguments_of) := C8.fnScope_by (by decide +kernel)
theorem ok_arguments_of (G : Gs K mg) (hA : Oks P w K mg T base (n + 2) C) (hL : Oks P w K mg T base n L) {f : Addr} {fd : FuncData} {cdv : Value} (F : FD K "arguments_of" st_arguments_of f fd cdv) :
    FnQ false P w K mg base (n + 3) f fd ["kind"] (spF K mg T 1 (runF 2 1 (b_arguments_of C L))) :=
  fn_ok (N := ["kind", "found"]) F sc_arguments_of fun A outer s H E fc => by
    exact (sss_cons (ss_set 1 fc.nd (se_lst sa_nil))
    (sss_cons (ss_while fc.po (st_cmp (os_eq fc.u64) (se_sub fc.u1 (se_slot 0) se_int) se_str)
    (sss_cons (ss_exp (se_met PySem.F.plainAttrs_list PySem.F.slot_list_append PySem.F.type_list_append ms_append (se_slot 1) (sa_cons (se_sub fc.u1 (se_slot 0) se_int) sa_nil)))
    (sss_one (ss_set 0 fc.nd (se_sub fc.u1 (se_slot 0) se_int)))))
    (sss_one (ss_ret (se_ty cs_tuple G.b_tuple bt_tuple (sa_cons (se_slot 1) sa_nil))))))
abbrev st_many_ends : Stmt := top 11
theorem sc_many_ends : FnScope ["kind", "one"] ["kind"] (defScope st_many_ends) := C8.fnScope_by (by decide +kernel)
theorem ok_many_ends (G : Gs K mg) (hA : Oks P w K mg T base (n + 2) C) (hL : Oks P w K mg T base n L) {f : Addr} {fd : FuncData} {cdv : Value} (F : FD K "many_ends" st_many_ends f fd cdv) :
    FnQ false P w K mg base (n + 3) f fd ["kind"] (spF K mg T 1 (runF 2 1 (b_many_ends C L))) :=
  fn_ok (N := ["kind", "one"]) F sc_many_ends fun A outer s H E fc => by
    exact (sss_one (ss_ret (se_bin os_add se_int (se_bi (cs_sum fc.calm_) G.b_sum bi_sum (sa_cons (se_lc [("one", 1)] (t := (.nm 1)) (c := mTrue) (f := (mCall (C 5) [] (mCons (mSlot 1) mNil))) fc.calm_ fc.nd_ (si_val (se_call hA.f_arguments_of fc.hr (fun z => by cases z) fc.tk (sa_cons (se_slot 0) sa_nil))) (blkOk_by (N := ["kind", "one"]) (sc := defScope st_many_ends) (by decide +kernel)) (fun _ _ _ _ _ => (tg_nm 1 fc.nd_)) (fun _ _ _ _ _ => sts_nil) (fun _ _ _ _ _ => (se_call hA.f_many_ends fc.hr (fun z => by cases z) takes0 (sa_cons (se_slot 1) sa_nil)))) sa_nil)))))
abbrev st_signs_of : Stmt := top 13
theorem sc_signs_of : FnScope ["kind", "is_asked"] ["kind", "is_asked"] (defScope st_signs_of) := C8.fnScope_by (by decide +kernel)
theorem ok_signs_of (G : Gs K mg) (hA : Oks P w K mg T base (n + 2) C) (hL : Oks P w K mg T base n L) {f : Addr} {fd : FuncData} {cdv : Value} (F : FD K "signs_of" st_signs_of f fd cdv) :
    FnQ false P w K mg base (n + 3) f fd ["kind", "is_asked"] (spF K mg T 2 (runF 2 2 (b_signs_of C L))) :=
  fn_ok (N := ["kind", "is_asked"]) F sc_signs_of fun A outer s H E fc => by
    exact (sss_cons (ss_if (st_cmp (os_eq fc.u64) (se_sub fc.u1 (se_slot 0) se_int) se_str)
    (sss_one (ss_ret (se_lst (sa_cons (se_slot 1) sa_nil))))
    sss_nil)
    (sss_one (ss_ret (se_bin os_add (se_call hA.f_signs_of fc.hr (fun z => by cases z) fc.tk (sa_cons (se_sub fc.u1 (se_slot 0) se_int) (sa_cons (se_not (se_slot 1)) sa_nil))) (se_call hA.f_signs_of fc.hr (fun z => by cases z) fc.tk (sa_cons (se_sub fc.u1 (se_slot 0) se_int) (sa_cons (se_slot 1) sa_nil)))))))
abbrev st_signs : Stmt := top 14
theorem sc_signs : FnScope ["kind"] ["kind"] (defScope st_signs) := C8.fnScope_by (by decide +kernel)
theorem ok_signs (G : Gs K mg) (hA : Oks P w K mg T base (n + 2) C) (hL : Oks P w K mg T base n L) {f : Addr} {fd : FuncData} {cdv : Value} (F : FD K "signs" st_signs f fd cdv) :
    FnQ false P w K mg base (n + 3) f fd ["kind"] (spF K mg T 1 (runF 1 1 (b_signs C L))) :=
  fn_ok (N := ["kind"]) F sc_signs fun A outer s H E fc => by
    exact (sss_cons (ss_exp (se_call hA.f_need_kind fc.hr (fun z => by cases z) fc.tk (sa_cons (se_slot 0) sa_nil)))
    (sss_one (ss_ret (se_ty cs_tuple G.b_tuple bt_tuple (sa_cons (se_call hA.d_signs_of_1 fc.hr (fun z => by cases z) fc.tk (sa_cons (se_slot 0) sa_nil)) sa_nil)))))
abbrev st_add_parts : Stmt := top 15
theorem sc_add_parts : FnScope ["kind", "first", "found", "one", "here", "results"] ["kind", "first", "found"] (defScope st_add_parts) := C8.fnScope_by (by decide +kernel)
theorem ok_add_parts (G : Gs K mg) (hA : Oks P w K mg T base (n + 2) C) (hL : Oks P w K mg T base n L) {f : Addr} {fd : FuncData} {cdv : Value} (F : FD K "add_parts" st_add_parts f fd cdv) :
    FnQ false P w K mg base (n + 3) f fd ["kind", "first", "found"] (spF K mg T 3 (runF 6 3 (b_add_parts C L))) :=
  fn_ok (N := ["kind", "first", "found", "one", "here", "results"]) F sc_add_parts fun A outer s H E fc => by
    exact (sss_cons (ss_par 4 5 fc.calm fc.nd (sa_cons (se_slot 1) (sa_cons (se_lst sa_nil) sa_nil)) (by rfl))
    (sss_cons (ss_for fc.po fc.calm (si_val (se_call hA.f_arguments_of fc.hr (fun z => by cases z) fc.tk (sa_cons (se_slot 0) sa_nil))) (sg_name 3 fc.nd)
    (sss_cons (ss_exp (se_met PySem.F.plainAttrs_list PySem.F.slot_list_append PySem.F.type_list_append ms_append (se_slot 5) (sa_cons (se_call hA.f_add_parts fc.hr (fun z => by cases z) fc.tk (sa_cons (se_slot 3) (sa_cons (se_slot 4) (sa_cons (se_slot 2) sa_nil)))) sa_nil)))
    (sss_one (ss_aug 4 fc.nd (se_call hA.f_many_ends fc.hr (fun z => by cases z) fc.tk (sa_cons (se_slot 3) sa_nil)) (ip_of os_iadd)))))
    (sss_cons (ss_asg (se_ty cs_tuple G.b_tuple bt_tuple (sa_cons (se_slot 5) sa_nil)) (sg_sub fc.u1 (se_slot 2) (se_slot 4)))
    (sss_one (ss_ret (se_slot 4))))))
abbrev st_parts_of_ends : Stmt := top 16
theorem sc_parts_of_ends : FnScope ["kind", "found", "end"] ["kind"] (defScope st_parts_of_ends) := C8.fnScope_by (by decide +kernel)
theorem ok_parts_of_ends (G : Gs K mg) (hA : Oks P w K mg T base (n + 2) C) (hL : Oks P w K mg T base n L) {f : Addr} {fd : FuncData} {cdv : Value} (F : FD K "parts_of_ends" st_parts_of_ends f fd cdv) :
    FnQ false P w K mg base (n + 3) f fd ["kind"] (spF K mg T 1 (runF 3 1 (b_parts_of_ends C L))) :=
  fn_ok (N := ["kind", "found", "end"]) F sc_parts_of_ends fun A outer s H E fc => by
    exact (sss_cons (ss_set 1 fc.nd se_dict0)
    (sss_cons (ss_exp (se_call hA.f_add_parts fc.hr (fun z => by cases z) fc.tk (sa_cons (se_slot 0) (sa_cons se_int (sa_cons (se_slot 1) sa_nil)))))
    (sss_one (ss_ret (se_ty (cs_dictP fc.calm_) G.b_dict bt_dict (sa_cons (se_lc [("end", 2)] (t := (.nm 2)) (c := mTrue) (f := (mTup (mCons (mSlot 2) (mCons (mBin bSub' (mSlot 1) (mSlot 2)) mNil)))) fc.calm_ fc.nd_ (si_val (se_bi (cs_sortD fc.calm_) G.b_sorted bi_sorted (sa_cons (se_slot 1) sa_nil))) (blkOk_by (N := ["kind", "found", "end"]) (sc := defScope st_parts_of_ends) (by decide +kernel)) (fun _ _ _ _ _ => (tg_nm 2 fc.nd_)) (fun _ _ _ _ _ => sts_nil) (fun _ _ _ _ _ => (se_tup (sa_cons (se_slot 2) (sa_cons (se_sub fc.u1 (se_slot 1) (se_slot 2)) sa_nil))))) sa_nil))))))
abbrev st_parts : Stmt := top 17
theorem sc_parts : FnScope ["kind"] ["kind"] (defScope st_parts) := C8.fnScope_by (by decide +kernel)
theorem ok_parts (G : Gs K mg) (hA : Oks P w K mg T base (n + 2) C) (hL : Oks P w K mg T base n L) {f : Addr} {fd : FuncData} {cdv : Value} (F : FD K "parts" st_parts f fd cdv) :
    FnQ false P w K mg base (n + 3) f fd ["kind"] (spF K mg T 1 (runF 1 1 (b_parts C L))) :=
  fn_ok (N := ["kind"]) F sc_parts fun A outer s H E fc => by
    exact (sss_cons (ss_exp (se_call hA.f_need_kind fc.hr (fun z => by cases z) fc.tk (sa_cons (se_slot 0) sa_nil)))
    (sss_one (ss_ret (se_call hA.f_parts_of_ends fc.hr (fun z => by cases z) fc.tk (sa_cons (se_slot 0) sa_nil)))))
abbrev st_is_end : Stmt := top 18
theorem sc_is_end : FnScope ["kind", "value"] ["kind", "value"] (defScope st_is_end) := C8.fnScope_by (by decide +kernel)
theorem ok_is_end (G : Gs K mg) (hA : Oks P w K mg T base (n + 2) C) (hL : Oks P w K mg T base n L) {f : Addr} {fd : FuncData} {cdv : Value} (F : FD K "is_end" st_is_end f fd cdv) :
    FnQ false P w K mg base (n + 3) f fd ["kind", "value"] (spF K mg T 2 (runF 2 2 (b_is_end C L))) :=
  fn_ok (N := ["kind", "value"]) F sc_is_end fun A outer s H E fc => by
    exact (sss_one (ss_ret (se_and (se_call hA.f_is_whole fc.hr (fun z => by cases z) fc.tk (sa_cons (se_slot 1) sa_nil)) (se_one (se_chain os_le os_lt se_int (se_slot 1) (se_call hA.f_many_ends fc.hr (fun z => by cases z) fc.tk (sa_cons (se_slot 0) sa_nil)))))))
abbrev st_keeper : Stmt := top 19
theorem sc_keeper : FnScope ["kind", "end", "found", "one"] ["kind", "end"] (defScope st_keeper) := C8.fnScope_by (by decide +kernel)
theorem ok_keeper (G : Gs K mg) (hA : Oks P w K mg T base (n + 2) C) (hL : Oks P w K mg T base n L) {f : Addr} {fd : FuncData} {cdv : Value} (F : FD K "keeper" st_keeper f fd cdv) :
    FnQ false P w K mg base (n + 3) f fd ["kind", "end"] (spF K mg T 2 (runF 4 2 (b_keeper C L))) :=
  fn_ok (N := ["kind", "end", "found", "one"]) F sc_keeper fun A outer s H E fc => by
    exact (sss_cons (ss_exp (se_call hA.f_need_kind fc.hr (fun z => by cases z) fc.tk (sa_cons (se_slot 0) sa_nil)))
    (sss_cons (ss_if (st_not (st_val (se_call hA.f_is_end fc.hr (fun z => by cases z) fc.tk (sa_cons (se_slot 0) (sa_cons (se_slot 1) sa_nil)))))
    (sss_one (ss_raise fc.calm fc.tk G.e_BadEnd))
    sss_nil)
    (sss_cons (ss_set 2 fc.nd (se_call hA.f_parts_of_ends fc.hr (fun z => by cases z) fc.tk (sa_cons (se_slot 0) sa_nil)))
    (sss_cons (ss_lock 2 (ss_for fc.po fc.calm (si_keys (se_slot 2)) (sg_name 3 fc.nd)
    (sss_one (ss_if (st_cmp os_inT (se_slot 1) (se_sub fc.u1 (se_slot 2) (se_slot 3)))
    (sss_one (ss_ret (se_slot 3)))
    sss_nil))))
    (sss_one (ss_ret se_non))))))
abbrev st__law_begun : Stmt := top 21
theorem sc__law_begun : FnScope ["_law_script", "_law_great", "_law_cell"] ["_law_script"] (defScope st__law_begun) := C8.fnScope_by (by decide +kernel)
theorem ok__law_begun (G : Gs K mg) (hA : Oks P w K mg T base (n + 2) C) (hL : Oks P w K mg T base n L) {f : Addr} {fd : FuncData} {cdv : Value} (F : FD K "_law_begun" st__law_begun f fd cdv) :
    FnQ false P w K mg base (n + 3) f fd ["_law_script"] (spF K mg T 1 (runF 3 1 (b__law_begun C L))) :=
  fn_ok (N := ["_law_script", "_law_great", "_law_cell"]) F sc__law_begun fun A outer s H E fc => by
    exact (sss_cons (ss_setLc 1 [("_law_cell", 2)] (t := (.nm 2)) (c := (mTst (mBin bGe (mBi bAbs (mCons (mSlot 2) mNil)) (mBin bPow (mC (.int 10)) (mC (.int 18)))))) (f := (mBin bSub (mBi bAbs (mCons (mSlot 2) mNil)) (mBin bPow (mC (.int 10)) (mC (.int 18))))) fc.calm_ fc.nd_ (L2.sw_true rfl rfl rfl (by decide +kernel)) (si_val (se_slot 0)) (blkOk_by (N := ["_law_script", "_law_great", "_law_cell"]) (sc := defScope st__law_begun) (by decide +kernel)) (fun _ _ _ _ _ => (tg_nm 2 fc.nd_)) (fun _ _ _ _ _ => (sts_one (st_cmp os_ge (se_bi cs_abs G.b_abs bi_abs (sa_cons (se_slot 2) sa_nil)) (se_bin os_pow se_int se_int)))) (fun _ _ _ _ _ => (se_bin os_sub (se_bi cs_abs G.b_abs bi_abs (sa_cons (se_slot 2) sa_nil)) (se_bin os_pow se_int se_int))))
    (sss_one (ss_ret (se_disp (sps_cons se_str (se_slot 1) (sps_cons se_str (se_lc [("_law_cell", 2)] (t := (.nm 2)) (c := mTrue) (f := (mBi bAbs (mCons (mSlot 2) mNil))) fc.calm_ fc.nd_ (si_val (se_slot 0)) (blkOk_by (N := ["_law_script", "_law_great", "_law_cell"]) (sc := defScope st__law_begun) (by decide +kernel)) (fun _ _ _ _ _ => (tg_nm 2 fc.nd_)) (fun _ _ _ _ _ => sts_nil) (fun _ _ _ _ _ => (se_bi cs_abs G.b_abs bi_abs (sa_cons (se_slot 2) sa_nil)))) (sps_cons se_str se_int (sps_cons se_str se_int sps_nil))))))))
abbrev st__law_blended : Stmt := top 22
theorem sc__law_blended : FnScope ["_law_state", "_law_prime", "_law_turn", "_law_found", "_law_blend", "_law_cell"] ["_law_state"] (defScope st__law_blended) := C8.fnScope_by (by decide +kernel)
theorem ok__law_blended (G : Gs K mg) (hA : Oks P w K mg T base (n + 2) C) (hL : Oks P w K mg T base n L) {f : Addr} {fd : FuncData} {cdv : Value} (F : FD K "_law_blended" st__law_blended f fd cdv) :
    FnQ false P w K mg base (n + 3) f fd ["_law_state"] (spF K mg T 1 (runF 6 1 (b__law_blended C L))) :=
  fn_ok (N := ["_law_state", "_law_prime", "_law_turn", "_law_found", "_law_blend", "_law_cell"]) F sc__law_blended fun A outer s H E fc => by
    exact (sss_cons (ss_par 2 3 fc.calm fc.nd (sa_cons (se_bin os_add (se_sub fc.u1 (se_slot 0) se_str) se_int) (sa_cons se_int sa_nil)) (by rfl))
    (sss_cons (ss_asg (se_slot 2) (sg_sub fc.u1 (se_slot 0) se_str))
    (sss_cons (ss_for fc.po fc.calm (si_val (se_lst (sa_cons se_int (sa_cons se_int (sa_cons se_int sa_nil))))) (sg_name 1 fc.nd)
    (sss_cons (ss_set 4 fc.nd (se_bin os_add (se_bin os_mul se_int (se_slot 2)) (se_bin os_div (se_slot 1) se_int)))
    (sss_cons (ss_for fc.po fc.calm (si_val (se_sub fc.u1 (se_slot 0) se_str)) (sg_name 5 fc.nd)
    (sss_one (ss_set 4 fc.nd (se_bin os_mod (se_ty cs_int G.b_int bt_int (sa_cons (se_bin os_add (se_bin os_add (se_bin os_mul (se_slot 4) se_int) (se_slot 5)) (se_slot 2)) sa_nil)) (se_slot 1)))))
    (sss_one (ss_set 3 fc.nd (se_bin os_add (se_bin os_mul (se_slot 3) se_int) (se_bin os_mod (se_ty cs_int G.b_int bt_int (sa_cons (se_bin os_pow (se_slot 4) se_int) sa_nil)) (se_slot 1))))))))
    (sss_one (ss_ret (se_slot 3))))))
abbrev st__law_draw : Stmt := top 23
theorem sc__law_draw : FnScope ["_law_state", "_law_room", "_law_found"] ["_law_state", "_law_room"] (defScope st__law_draw) := C8.fnScope_by (by decide +kernel)
theorem ok__law_draw (G : Gs K mg) (hA : Oks P w K mg T base (n + 2) C) (hL : Oks P w K mg T base n L) {f : Addr} {fd : FuncData} {cdv : Value} (F : FD K "_law_draw" st__law_draw f fd cdv) :
    FnQ false P w K mg base (n + 3) f fd ["_law_state", "_law_room"] (spF K mg T 2 (runF 3 2 (b__law_draw C L))) :=
  fn_ok (N := ["_law_state", "_law_room", "_law_found"]) F sc__law_draw fun A outer s H E fc => by
    exact (sss_cons (ss_if (st_cmp (os_eq fc.u64) (se_sub fc.u1 (se_slot 0) se_str) se_int)
    (sss_one (ss_asg (se_ite (st_cmp (os_ne fc.u64) (se_sub fc.u1 (se_slot 0) se_str) (se_lst sa_nil)) (se_met PySem.F.plainAttrs_list PySem.F.slot_list_pop PySem.F.type_list_pop ms_popAt (se_sub fc.u1 (se_slot 0) se_str) (sa_cons se_int sa_nil)) (se_call hA.f__law_blended fc.hr (fun z => by cases z) fc.tk (sa_cons (se_slot 0) sa_nil))) (sg_sub fc.u1 (se_slot 0) se_str)))
    sss_nil)
    (sss_cons (ss_set 2 fc.nd (se_bin os_mod (se_ty cs_int G.b_int bt_int (sa_cons (se_sub fc.u1 (se_slot 0) se_str) sa_nil)) (se_slot 1)))
    (sss_cons (ss_asg (se_bin os_div (se_sub fc.u1 (se_slot 0) se_str) (se_slot 1)) (sg_sub fc.u1 (se_slot 0) se_str))
    (sss_one (ss_ret (se_slot 2))))))
abbrev st__law_pick : Stmt := top 24
theorem sc__law_pick : FnScope ["_law_state", "_law_some"] ["_law_state", "_law_some"] (defScope st__law_pick) := C8.fnScope_by (by decide +kernel)
theorem ok__law_pick (G : Gs K mg) (hA : Oks P w K mg T base (n + 2) C) (hL : Oks P w K mg T base n L) {f : Addr} {fd : FuncData} {cdv : Value} (F : FD K "_law_pick" st__law_pick f fd cdv) :
    FnQ false P w K mg base (n + 3) f fd ["_law_state", "_law_some"] (spF K mg T 2 (runF 2 2 (b__law_pick C L))) :=
  fn_ok (N := ["_law_state", "_law_some"]) F sc__law_pick fun A outer s H E fc => by
    exact (sss_one (ss_ret (se_sub fc.u1 (se_slot 1) (se_call hA.f__law_draw fc.hr (fun z => by cases z) fc.tk (sa_cons (se_slot 0) (sa_cons (se_bi cs_len G.b_len bi_len (sa_cons (se_slot 1) sa_nil)) sa_nil))))))
abbrev st__law_oh_same : Stmt := top 26
theorem sc__law_oh_same : FnScope ["_law_found", "_law_due"] ["_law_found", "_law_due"] (defScope st__law_oh_same) := C8.fnScope_by (by decide +kernel)
theorem ok__law_oh_same (G : Gs K mg) (hA : Oks P w K mg T base (n + 2) C) (hL : Oks P w K mg T base n L) {f : Addr} {fd : FuncData} {cdv : Value} (F : FD K "_law_oh_same" st__law_oh_same f fd cdv) :
    FnQ true P w K mg base (n + 3) f fd ["_law_found", "_law_due"] (spF K mg T 2 (runF 2 2 (b__law_oh_same C L))) :=
  fn_ok (N := ["_law_found", "_law_due"]) F sc__law_oh_same fun A outer s H E fc => by
    exact (sss_one (ss_ret (se_cmp (os_eq fc.u64) (se_bi (cs_repr fc.u1002 (fc.gd rfl)) G.b_repr bi_repr (sa_cons (se_slot 0) sa_nil)) (se_bi (cs_repr fc.u1002 (fc.gd rfl)) G.b_repr bi_repr (sa_cons (se_slot 1) sa_nil)))))
abbrev st__law_hd_size : Stmt := top 27
theorem sc__law_hd_size : FnScope ["_law_kind"] ["_law_kind"] (defScope st__law_hd_size) := C8.fnScope_by (by decide +kernel)
theorem ok__law_hd_size (G : Gs K mg) (hA : Oks P w K mg T base (n + 2) C) (hL : Oks P w K mg T base n L) {f : Addr} {fd : FuncData} {cdv : Value} (F : FD K "_law_hd_size" st__law_hd_size f fd cdv) :
    FnQ false P w K mg base (n + 3) f fd ["_law_kind"] (spF K mg T 1 (runF 1 1 (b__law_hd_size C L))) :=
  fn_ok (N := ["_law_kind"]) F sc__law_hd_size fun A outer s H E fc => by
    exact (sss_one (ss_ret (se_ite (st_cmp (os_eq fc.u64) (se_sub fc.u1 (se_slot 0) se_int) se_str) se_int (se_bin os_add (se_call hA.f__law_hd_size fc.hr (fun z => by cases z) fc.tk (sa_cons (se_sub fc.u1 (se_slot 0) se_int) sa_nil)) (se_call hA.f__law_hd_size fc.hr (fun z => by cases z) fc.tk (sa_cons (se_sub fc.u1 (se_slot 0) se_int) sa_nil))))))
abbrev st__law_hd_wanted : Stmt := top 28
theorem sc__law_hd_wanted : FnScope ["_law_kind", "_law_found"] ["_law_kind"] (defScope st__law_hd_wanted) := C8.fnScope_by (by decide +kernel)
theorem ok__law_hd_wanted (G : Gs K mg) (hA : Oks P w K mg T base (n + 2) C) (hL : Oks P w K mg T base n L) {f : Addr} {fd : FuncData} {cdv : Value} (F : FD K "_law_hd_wanted" st__law_hd_wanted f fd cdv) :
    FnQ false P w K mg base (n + 3) f fd ["_law_kind"] (spF K mg T 1 (runF 2 1 (b__law_hd_wanted C L))) :=
  fn_ok (N := ["_law_kind", "_law_found"]) F sc__law_hd_wanted fun A outer s H E fc => by
    exact (sss_cons (ss_set 1 fc.nd (se_lst sa_nil))
    (sss_cons (ss_while fc.po (st_cmp (os_eq fc.u64) (se_sub fc.u1 (se_slot 0) se_int) se_str)
    (sss_cons (ss_exp (se_met PySem.F.plainAttrs_list PySem.F.slot_list_append PySem.F.type_list_append ms_append (se_slot 1) (sa_cons (se_sub fc.u1 (se_slot 0) se_int) sa_nil)))
    (sss_one (ss_set 0 fc.nd (se_sub fc.u1 (se_slot 0) se_int)))))
    (sss_one (ss_ret (se_slot 1)))))
abbrev st__law_hd_signs : Stmt := top 29
theorem sc__law_hd_signs : FnScope ["_law_kind", "_law_one"] ["_law_kind"] (defScope st__law_hd_signs) := C8.fnScope_by (by decide +kernel)
theorem ok__law_hd_signs (G : Gs K mg) (hA : Oks P w K mg T base (n + 2) C) (hL : Oks P w K mg T base n L) {f : Addr} {fd : FuncData} {cdv : Value} (F : FD K "_law_hd_signs" st__law_hd_signs f fd cdv) :
    FnQ false P w K mg base (n + 3) f fd ["_law_kind"] (spF K mg T 1 (runF 2 1 (b__law_hd_signs C L))) :=
  fn_ok (N := ["_law_kind", "_law_one"]) F sc__law_hd_signs fun A outer s H E fc => by
    exact (sss_cons (ss_if (st_cmp (os_eq fc.u64) (se_sub fc.u1 (se_slot 0) se_int) se_str)
    (sss_one (ss_ret (se_lst (sa_cons se_bl sa_nil))))
    sss_nil)
    (sss_one (ss_ret (se_bin os_add (se_lc [("_law_one", 1)] (t := (.nm 1)) (c := mTrue) (f := (mNotV (mSlot 1))) fc.calm_ fc.nd_ (si_val (se_call hA.f__law_hd_signs fc.hr (fun z => by cases z) fc.tk (sa_cons (se_sub fc.u1 (se_slot 0) se_int) sa_nil))) (blkOk_by (N := ["_law_kind", "_law_one"]) (sc := defScope st__law_hd_signs) (by decide +kernel)) (fun _ _ _ _ _ => (tg_nm 1 fc.nd_)) (fun _ _ _ _ _ => sts_nil) (fun _ _ _ _ _ => (se_not (se_slot 1)))) (se_call hA.f__law_hd_signs fc.hr (fun z => by cases z) fc.tk (sa_cons (se_sub fc.u1 (se_slot 0) se_int) sa_nil))))))
abbrev st__law_hd_parts : Stmt := top 30
theorem sc__law_hd_parts : FnScope ["_law_kind", "_law_first", "_law_found", "_law_one", "_law_here", "_law_results"] ["_law_kind", "_law_first", "_law_found"] (defScope st__law_hd_parts) := C8.fnScope_by (by decide +kernel)
theorem ok__law_hd_parts (G : Gs K mg) (hA : Oks P w K mg T base (n + 2) C) (hL : Oks P w K mg T base n L) {f : Addr} {fd : FuncData} {cdv : Value} (F : FD K "_law_hd_parts" st__law_hd_parts f fd cdv) :
    FnQ false P w K mg base (n + 3) f fd ["_law_kind", "_law_first", "_law_found"] (spF K mg T 3 (runF 6 3 (b__law_hd_parts C L))) :=
  fn_ok (N := ["_law_kind", "_law_first", "_law_found", "_law_one", "_law_here", "_law_results"]) F sc__law_hd_parts fun A outer s H E fc => by
    exact (sss_cons (ss_par 4 5 fc.calm fc.nd (sa_cons (se_slot 1) (sa_cons (se_lst sa_nil) sa_nil)) (by rfl))
    (sss_cons (ss_for fc.po fc.calm (si_val (se_call hA.f__law_hd_wanted fc.hr (fun z => by cases z) fc.tk (sa_cons (se_slot 0) sa_nil))) (sg_name 3 fc.nd)
    (sss_cons (ss_exp (se_call hA.f__law_hd_parts fc.hr (fun z => by cases z) fc.tk (sa_cons (se_slot 3) (sa_cons (se_slot 4) (sa_cons (se_slot 2) sa_nil)))))
    (sss_cons (ss_set 4 fc.nd (se_bin os_add (se_slot 4) (se_call hA.f__law_hd_size fc.hr (fun z => by cases z) fc.tk (sa_cons (se_slot 3) sa_nil))))
    (sss_one (ss_exp (se_met PySem.F.plainAttrs_list PySem.F.slot_list_append PySem.F.type_list_append ms_append (se_slot 5) (sa_cons (se_bin os_sub (se_slot 4) se_int) sa_nil)))))))
    (sss_cons (ss_asg (se_tup (sa_cons (se_slot 5) (sa_cons (se_slot 0) sa_nil))) (sg_sub fc.u1 (se_slot 2) (se_slot 4)))
    (sss_one (ss_ret (se_slot 2))))))
abbrev st__law_hd_any_kind : Stmt := top 31
theorem sc__law_hd_any_kind : FnScope ["_law_state", "_law_deep"] ["_law_state", "_law_deep"] (defScope st__law_hd_any_kind) := C8.fnScope_by (by decide +kernel)
theorem ok__law_hd_any_kind (G : Gs K mg) (hA : Oks P w K mg T base (n + 2) C) (hL : Oks P w K mg T base n L) {f : Addr} {fd : FuncData} {cdv : Value} (F : FD K "_law_hd_any_kind" st__law_hd_any_kind f fd cdv) :
    FnQ false P w K mg base (n + 3) f fd ["_law_state", "_law_deep"] (spF K mg T 2 (runF 2 2 (b__law_hd_any_kind C L))) :=
  fn_ok (N := ["_law_state", "_law_deep"]) F sc__law_hd_any_kind fun A outer s H E fc => by
    exact (sss_cons (ss_if (st_w (sw_or (st_cmp (os_eq fc.u64) (se_slot 1) se_int) (sw_or1 (st_cmp (os_eq fc.u64) (se_call hA.f__law_draw fc.hr (fun z => by cases z) fc.tk (sa_cons (se_slot 0) (sa_cons se_int sa_nil))) se_int))))
    (sss_one (ss_ret (se_tup (sa_cons se_str sa_nil))))
    sss_nil)
    (sss_one (ss_ret (se_tup (sa_cons se_str (sa_cons (se_call hA.f__law_hd_any_kind fc.hr (fun z => by cases z) fc.tk (sa_cons (se_slot 0) (sa_cons (se_bin os_sub (se_slot 1) se_int) sa_nil))) (sa_cons (se_call hA.f__law_hd_any_kind fc.hr (fun z => by cases z) fc.tk (sa_cons (se_slot 0) (sa_cons (se_bin os_sub (se_slot 1) se_int) sa_nil))) sa_nil)))))))
abbrev st__law_hd_bad_kind : Stmt := top 32
theorem sc__law_hd_bad_kind : FnScope ["_law_state", "_law_some", "_law_wide", "_law_lap"] ["_law_state"] (defScope st__law_hd_bad_kind) := C8.fnScope_by (by decide +kernel)
theorem ok__law_hd_bad_kind (G : Gs K mg) (hA : Oks P w K mg T base (n + 2) C) (hL : Oks P w K mg T base n L) {f : Addr} {fd : FuncData} {cdv : Value} (F : FD K "_law_hd_bad_kind" st__law_hd_bad_kind f fd cdv) :
    FnQ false P w K mg base (n + 3) f fd ["_law_state"] (spF K mg T 1 (runF 4 1 (b__law_hd_bad_kind C L))) :=
  fn_ok (N := ["_law_state", "_law_some", "_law_wide", "_law_lap"]) F sc__law_hd_bad_kind fun A outer s H E fc => by
    exact (sss_cons (ss_set 1 fc.nd (se_lst (sa_cons se_non (sa_cons se_int (sa_cons se_str (sa_cons (se_tup sa_nil) (sa_cons (se_tup (sa_cons se_str (sa_cons se_int sa_nil))) (sa_cons (se_lst (sa_cons se_str sa_nil)) (sa_cons (se_tup (sa_cons se_str (sa_cons (se_tup (sa_cons se_str sa_nil)) sa_nil))) (sa_cons (se_tup (sa_cons se_str (sa_cons (se_tup (sa_cons se_str sa_nil)) (sa_cons se_non sa_nil)))) (sa_cons (se_tup (sa_cons se_str (sa_cons (se_tup (sa_cons se_str sa_nil)) (sa_cons (se_tup (sa_cons se_str sa_nil)) sa_nil)))) sa_nil)))))))))))
    (sss_cons (ss_set 2 fc.nd (se_tup (sa_cons se_str sa_nil)))
    (sss_cons (ss_for fc.po fc.calm (si_rng1 G.b_range (sa_cons se_int sa_nil)) (sg_name 3 fc.nd)
    (sss_one (ss_set 2 fc.nd (se_tup (sa_cons se_str (sa_cons (se_tup (sa_cons se_str sa_nil)) (sa_cons (se_slot 2) sa_nil)))))))
    (sss_one (ss_ret (se_call hA.f__law_pick fc.hr (fun z => by cases z) fc.tk (sa_cons (se_slot 0) (sa_cons (se_bin os_add (se_slot 1) (se_lst (sa_cons (se_slot 2) (sa_cons (se_tup (sa_cons se_str (sa_cons (se_lst (sa_cons se_str sa_nil)) (sa_cons (se_tup (sa_cons se_str sa_nil)) sa_nil)))) (sa_cons (se_tup (sa_cons se_str (sa_cons (se_tup (sa_cons se_str sa_nil)) (sa_cons (se_tup (sa_cons se_str sa_nil)) (sa_cons (se_tup (sa_cons se_str sa_nil)) sa_nil))))) (sa_cons (se_tup (sa_cons (se_tup (sa_cons se_str sa_nil)) sa_nil)) (sa_cons se_bl sa_nil))))))) sa_nil))))))))
abbrev st__law_k15_kind : Stmt := top 33
theorem sc__law_k15_kind : FnScope ["_law_state", "_law_found", "_law_lap"] ["_law_state"] (defScope st__law_k15_kind) := C8.fnScope_by (by decide +kernel)
theorem ok__law_k15_kind (G : Gs K mg) (hA : Oks P w K mg T base (n + 2) C) (hL : Oks P w K mg T base n L) {f : Addr} {fd : FuncData} {cdv : Value} (F : FD K "_law_k15_kind" st__law_k15_kind f fd cdv) :
    FnQ false P w K mg base (n + 3) f fd ["_law_state"] (spF K mg T 1 (runF 3 1 (b__law_k15_kind C L))) :=
  fn_ok (N := ["_law_state", "_law_found", "_law_lap"]) F sc__law_k15_kind fun A outer s H E fc => by
    exact (sss_cons (ss_if (st_cmp (os_eq fc.u64) (se_call hA.f__law_draw fc.hr (fun z => by cases z) fc.tk (sa_cons (se_slot 0) (sa_cons se_int sa_nil))) se_int)
    (sss_cons (ss_set 1 fc.nd (se_tup (sa_cons se_str sa_nil)))
    (sss_cons (ss_for fc.po fc.calm (si_rng1 G.b_range (sa_cons (se_call hA.f__law_pick fc.hr (fun z => by cases z) fc.tk (sa_cons (se_slot 0) (sa_cons (se_lst (sa_cons se_int (sa_cons se_int (sa_cons se_int sa_nil)))) sa_nil))) sa_nil)) (sg_name 2 fc.nd)
    (sss_one (ss_set 1 fc.nd (se_ite (st_cmp (os_eq fc.u64) (se_call hA.f__law_draw fc.hr (fun z => by cases z) fc.tk (sa_cons (se_slot 0) (sa_cons se_int sa_nil))) se_int) (se_tup (sa_cons se_str (sa_cons (se_slot 1) (sa_cons (se_tup (sa_cons se_str sa_nil)) sa_nil)))) (se_tup (sa_cons se_str (sa_cons (se_tup (sa_cons se_str sa_nil)) (sa_cons (se_slot 1) sa_nil))))))))
    (sss_one (ss_ret (se_slot 1)))))
    sss_nil)
    (sss_one (ss_ret (se_call hA.f__law_hd_any_kind fc.hr (fun z => by cases z) fc.tk (sa_cons (se_slot 0) (sa_cons se_int sa_nil))))))
abbrev st__law_k15_right : Stmt := top 34
theorem sc__law_k15_right : FnScope ["_law_kind", "_law_due", "_law_end", "_law_told", "_law_asked", "_law_owners", "_law_one", "_law_part"] ["_law_kind"] (defScope st__law_k15_right) := C8.fnScope_by (by decide +kernel)
theorem ok__law_k15_right (G : Gs K mg) (hA : Oks P w K mg T base (n + 2) C) (hL : Oks P w K mg T base n L) {f : Addr} {fd : FuncData} {cdv : Value} (F : FD K "_law_k15_right" st__law_k15_right f fd cdv) :
    FnQ true P w K mg base (n + 3) f fd ["_law_kind"] (spF K mg T 1 (runF 8 1 (b__law_k15_right C L))) :=
  fn_ok (N := ["_law_kind", "_law_due", "_law_end", "_law_told", "_law_asked", "_law_owners", "_law_one", "_law_part"]) F sc__law_k15_right fun A outer s H E fc => by
    exact (sss_cons (ss_set 1 fc.nd (se_lc [("_law_one", 6)] (t := (.nm 6)) (c := mTrue) (f := (mBi bBool (mCons (mSlot 6) mNil))) fc.calm_ fc.nd_ (si_val (se_call hA.f__law_hd_signs fc.hr (fun z => by cases z) fc.tk (sa_cons (se_slot 0) sa_nil))) (blkOk_by (N := ["_law_kind", "_law_due", "_law_end", "_law_told", "_law_asked", "_law_owners", "_law_one", "_law_part"]) (sc := defScope st__law_k15_right) (by decide +kernel)) (fun _ _ _ _ _ => (tg_nm 6 fc.nd_)) (fun _ _ _ _ _ => sts_nil) (fun _ _ _ _ _ => (se_ty cs_bool G.b_bool bt_bool (sa_cons (se_slot 6) sa_nil)))))
    (sss_cons (ss_asg (se_tup (sa_cons (se_call hA.f__law_hd_parts fc.hr (fun z => by cases z) fc.tk (sa_cons (se_slot 0) (sa_cons se_int (sa_cons se_dict0 sa_nil)))) (sa_cons (se_callK hA.k_parts_kind fc.hr (fun z => by cases z) fc.tk (sk_cons (se_slot 0) sk_nil)) sa_nil))) (sg_tup fc.calm (sgs_cons (sg_name 3 fc.nd) (sgs_cons (sg_name 4 fc.nd) sgs_nil))))
    (sss_cons (ss_if (st_w (sw_or (st_not (st_val (se_call hA.f__law_oh_same fc.hr fc.gd fc.tk (sa_cons (se_callK hA.k_signs_kind fc.hr (fun z => by cases z) fc.tk (sk_cons (se_slot 0) sk_nil)) (sa_cons (se_ty cs_tuple G.b_tuple bt_tuple (sa_cons (se_slot 1) sa_nil)) sa_nil))))) (sw_or1 (st_cmp (os_ne fc.u64) (se_ty (cs_listD fc.calm_) G.b_list bt_list (sa_cons (se_slot 4) sa_nil)) (se_listR fc.calm G.b_list G.b_range (se_bi cs_len G.b_len bi_len (sa_cons (se_slot 1) sa_nil)))))))
    (sss_one (ss_ret se_bl))
    sss_nil)
    (sss_cons (ss_for fc.po fc.calm (si_rng1 G.b_range (sa_cons (se_bi cs_len G.b_len bi_len (sa_cons (se_slot 1) sa_nil)) sa_nil)) (sg_name 2 fc.nd)
    (sss_cons (ss_if (st_w (sw_or (st_not (st_val (se_call hA.f__law_oh_same fc.hr fc.gd fc.tk (sa_cons (se_sub fc.u1 (se_slot 4) (se_slot 2)) (sa_cons (se_ty cs_tuple G.b_tuple bt_tuple (sa_cons (se_sub fc.u1 (se_sub fc.u1 (se_slot 3) (se_slot 2)) se_int) sa_nil)) sa_nil))))) (sw_or1 (st_cmp (os_ne fc.u64) (se_lc [("_law_part", 7)] (t := (.nm 7)) (c := (mTst (mBin bEq (mBin bSub' (mSlot 1) (mSlot 7)) (mBin bSub' (mSlot 1) (mSlot 2))))) (f := (mC (.int 1))) fc.calm_ fc.nd_ (si_val (se_sub fc.u1 (se_slot 4) (se_slot 2))) (blkOk_by (N := ["_law_kind", "_law_due", "_law_end", "_law_told", "_law_asked", "_law_owners", "_law_one", "_law_part"]) (sc := defScope st__law_k15_right) (by decide +kernel)) (fun _ _ _ _ _ => (tg_nm 7 fc.nd_)) (fun _ _ _ _ _ => (sts_one (st_cmp (os_eq fc.u64) (se_sub fc.u1 (se_slot 1) (se_slot 7)) (se_sub fc.u1 (se_slot 1) (se_slot 2))))) (fun _ _ _ _ _ => se_int)) (se_lst sa_nil)))))
    (sss_one (ss_ret se_bl))
    sss_nil)
    (sss_cons (ss_lock 4 (ss_setLc 5 [("_law_one", 6)] (t := (.nm 6)) (c := (mTst (mBin (bInT false) (mSlot 2) (mBin bSub' (mSlot 4) (mSlot 6))))) (f := (mSlot 6)) fc.calm_ fc.nd_ (L2.sw_true rfl rfl rfl (by decide +kernel)) (si_keys (se_slot 4)) (blkOk_by (N := ["_law_kind", "_law_due", "_law_end", "_law_told", "_law_asked", "_law_owners", "_law_one", "_law_part"]) (sc := defScope st__law_k15_right) (by decide +kernel)) (fun _ _ _ _ _ => (tg_nm 6 fc.nd_)) (fun _ _ _ _ _ => (sts_one (st_cmp os_inT (se_slot 2) (se_sub fc.u1 (se_slot 4) (se_slot 6))))) (fun _ _ _ _ _ => (se_slot 6))))
    (sss_one (ss_if (st_w (sw_or (st_not (st_val (se_call hA.f__law_oh_same fc.hr fc.gd fc.tk (sa_cons (se_lst (sa_cons (se_callK hA.k_keeper_kind_end fc.hr (fun z => by cases z) fc.tk (sk_cons (se_slot 0) (sk_cons (se_slot 2) sk_nil))) sa_nil)) (sa_cons (se_ite (st_cmp os_lt (se_slot 2) (se_bin os_sub (se_bi cs_len G.b_len bi_len (sa_cons (se_slot 1) sa_nil)) se_int)) (se_slot 5) (se_lst (sa_cons se_non sa_nil))) sa_nil))))) (sw_or1 (st_cmp os_gt (se_bi cs_len G.b_len bi_len (sa_cons (se_slot 5) sa_nil)) se_int))))
    (sss_one (ss_ret se_bl))
    sss_nil)))))
    (sss_cons (ss_exp (se_met0 PySem.F.plainAttrs_dict PySem.F.slot_dict_clear PySem.F.type_dict_clear ms_clear (se_slot 4)))
    (sss_one (ss_ret (se_cmp (os_eq fc.u64) (se_bi cs_len G.b_len bi_len (sa_cons (se_call hA.f_parts fc.hr (fun z => by cases z) fc.tk (sa_cons (se_slot 0) sa_nil)) sa_nil)) (se_bi cs_len G.b_len bi_len (sa_cons (se_slot 1) sa_nil))))))))))
abbrev st_law : Stmt := top 35
theorem sc_law : FnScope ["_law_script", "_law_state", "_law_lap", "_law_right", "_law_kind", "_law_bad", "_law_odd"] ["_law_script"] (defScope st_law) := C8.fnScope_by (by decide +kernel)
theorem ok_law (G : Gs K mg) (hA : Oks P w K mg T base (n + 2) C) (hL : Oks P w K mg T base n L) {f : Addr} {fd : FuncData} {cdv : Value} (F : FD K "law" st_law f fd cdv) (mk : MkOf base mg T "law" cdv) :
    FnQ true P w K mg base (n + 3) f fd ["_law_script"] (spF K mg T 1 (runF 7 1 (b_law C L))) :=
  fn_ok (N := ["_law_script", "_law_state", "_law_lap", "_law_right", "_law_kind", "_law_bad", "_law_odd"]) F sc_law fun A outer s H E fc => by
    have mk := mk.of A outer s H E (P := P) (w := w) (K := K) (N := ["_law_script", "_law_state", "_law_lap", "_law_right", "_law_kind", "_law_bad", "_law_odd"]) (st := st_law) (f := f)
    exact (sss_cons (ss_set 1 fc.nd (se_call hA.f__law_begun fc.hr (fun z => by cases z) fc.tk (sa_cons (se_slot 0) sa_nil)))
    (sss_cons (ss_for fc.po fc.calm (si_rng1 G.b_range (sa_cons (se_bin os_add se_int (se_bi (cs_min2 fc.calm_) G.b_min bi_min (sa_cons (se_bi cs_len G.b_len bi_len (sa_cons (se_slot 0) sa_nil)) (sa_cons se_int sa_nil)))) sa_nil)) (sg_name 2 fc.nd)
    (sss_cons (ss_set 4 fc.nd (se_call hA.f__law_k15_kind fc.hr (fun z => by cases z) fc.tk (sa_cons (se_slot 1) sa_nil)))
    (sss_one (ss_if (st_w (sw_and (st_cmp os_le (se_call hA.f__law_hd_size fc.hr (fun z => by cases z) fc.tk (sa_cons (se_slot 4) sa_nil)) se_int) (sw_and1 (st_not (st_val (se_call hA.f__law_k15_right fc.hr fc.gd fc.tk (sa_cons (se_slot 4) sa_nil)))))))
    (sss_one (ss_ret se_bl))
    sss_nil))))
    (sss_cons (ss_asg (se_tup (sa_cons (se_call hA.f__law_hd_bad_kind fc.hr (fun z => by cases z) fc.tk (sa_cons (se_slot 1) sa_nil)) (sa_cons (se_call hA.f__law_pick fc.hr (fun z => by cases z) fc.tk (sa_cons (se_slot 1) (sa_cons (se_lst (sa_cons se_non (sa_cons (se_neg se_int) (sa_cons se_int (sa_cons se_bl (sa_cons se_str (sa_cons (se_tup (sa_cons se_int sa_nil)) (sa_cons (se_call hA.f__law_hd_size fc.hr (fun z => by cases z) fc.tk (sa_cons (se_slot 4) sa_nil)) sa_nil)))))))) sa_nil))) sa_nil))) (sg_tup fc.calm (sgs_cons (sg_name 5 fc.nd) (sgs_cons (sg_name 6 fc.nd) sgs_nil))))
    (sss_cons (ss_set 3 fc.nd (se_lst (sa_cons (se_bi (cs_isE G.excs) G.b_isinstance bi_isinstance (sa_cons (se_caught (k := n) G.caught mk fc.hr fc.nd (fun _ _ _ _ _ _ _ fc => (se_call hL.f_signs fc.hr (fun z => by cases z) fc.tk (sa_cons (se_slot 5) sa_nil))) (LamX.lamS_by (sc := defScope st_law) (by decide +kernel))) (sa_cons (se_gl2 rfl G.v_BadKind) sa_nil))) (sa_cons (se_bi (cs_isE G.excs) G.b_isinstance bi_isinstance (sa_cons (se_caught (k := n) G.caught mk fc.hr fc.nd (fun _ _ _ _ _ _ _ fc => (se_call hL.f_parts fc.hr (fun z => by cases z) fc.tk (sa_cons (se_slot 5) sa_nil))) (LamX.lamS_by (sc := defScope st_law) (by decide +kernel))) (sa_cons (se_gl2 rfl G.v_BadKind) sa_nil))) (sa_cons (se_bi (cs_isE G.excs) G.b_isinstance bi_isinstance (sa_cons (se_caught (k := n) G.caught mk fc.hr fc.nd (fun _ _ _ _ _ _ _ fc => (se_call hL.f_keeper fc.hr (fun z => by cases z) fc.tk (sa_cons (se_slot 5) (sa_cons (se_slot 6) sa_nil)))) (LamX.lamS_by (sc := defScope st_law) (by decide +kernel))) (sa_cons (se_gl2 rfl G.v_BadKind) sa_nil))) sa_nil)))))
    (sss_cons (ss_if (st_cmp os_le (se_call hA.f__law_hd_size fc.hr (fun z => by cases z) fc.tk (sa_cons (se_slot 4) sa_nil)) se_int)
    (sss_one (ss_exp (se_met PySem.F.plainAttrs_list PySem.F.slot_list_append PySem.F.type_list_append ms_append (se_slot 3) (sa_cons (se_bi (cs_isE G.excs) G.b_isinstance bi_isinstance (sa_cons (se_caught (k := n) G.caught mk fc.hr fc.nd (fun _ _ _ _ _ _ _ fc => (se_call hL.f_keeper fc.hr (fun z => by cases z) fc.tk (sa_cons (se_slot 4) (sa_cons (se_slot 6) sa_nil)))) (LamX.lamS_by (sc := defScope st_law) (by decide +kernel))) (sa_cons (se_gl2 rfl G.v_BadEnd) sa_nil))) sa_nil))))
    sss_nil)
    (sss_one (ss_ret (se_cmp (os_notin fc.u65) se_bl (se_slot 3)))))))))
end
end G

set_option linter.all false
set_option maxRecDepth 100000
set_option maxHeartbeats 4000000
namespace G
open PySem PySem.Spec PyProof.Rows L2 Q
abbrev st__law_caught : Stmt := top 25
/-- the defs that the head tells -/
def fnl : List He.DefD := [dOf "is_whole" st_is_whole, dOf "is_word" st_is_word, dOf "is_kind" st_is_kind, dOf "need_kind" st_need_kind, dOf "arguments_of" st_arguments_of, dOf "many_ends" st_many_ends, dOfD "signs_of" st_signs_of [(.bl true)], dOf "signs" st_signs, dOf "add_parts" st_add_parts, dOf "parts_of_ends" st_parts_of_ends, dOf "parts" st_parts, dOf "is_end" st_is_end, dOf "keeper" st_keeper, dOf "_law_begun" st__law_begun, dOf "_law_blended" st__law_blended, dOf "_law_draw" st__law_draw, dOf "_law_pick" st__law_pick, dOf "_law_caught" st__law_caught, dOf "_law_oh_same" st__law_oh_same, dOf "_law_hd_size" st__law_hd_size, dOf "_law_hd_wanted" st__law_hd_wanted, dOf "_law_hd_signs" st__law_hd_signs, dOf "_law_hd_parts" st__law_hd_parts, dOf "_law_hd_any_kind" st__law_hd_any_kind, dOf "_law_hd_bad_kind" st__law_hd_bad_kind, dOf "_law_k15_kind" st__law_k15_kind, dOf "_law_k15_right" st__law_k15_right, dOf "law" st_law]
def glos0 : List Str := ["is_whole", "is_word", "is_kind", "need_kind", "arguments_of", "many_ends", "signs_of", "signs", "add_parts", "parts_of_ends", "parts", "is_end", "keeper", "_law_begun", "_law_blended", "_law_draw", "_law_pick", "_law_caught", "_law_oh_same", "_law_hd_size", "_law_hd_wanted", "_law_hd_signs", "_law_hd_parts", "_law_hd_any_kind", "_law_hd_bad_kind", "_law_k15_kind", "_law_k15_right", "law", "HeadError", "BadEnd"]
def glos1 : List Str := ["BadKind"]
def glos : List Str := glos0 ++ glos1
def frees0 : List Str := ["abs", "bool", "dict", "int", "isinstance", "len", "list", "min", "range", "repr", "sorted", "str", "sum", "tuple"]
def frees : List Str := frees0
def exF (K : PySem.W.Frag) : Bool := glosB K glos && (freesB K frees && (exsB K excSub excs && ((He.Fa.exc "BadEnd").ok K && ((He.Fa.exc "BadKind").ok K && (exmB K excs "HeadError" && (csB K "MOST_ENDS" k_MOST_ENDS))))))
def tfl : List He.Defn := [("law", none)]
def names0 : List Str := ["is_whole", "is_word", "is_kind", "need_kind", "arguments_of", "many_ends", "signs_of", "signs", "add_parts", "parts_of_ends", "parts", "is_end", "keeper", "_law_begun", "_law_blended", "_law_draw", "_law_pick", "_law_caught", "_law_oh_same", "_law_hd_size", "_law_hd_wanted", "_law_hd_signs", "_law_hd_parts", "_law_hd_any_kind", "_law_hd_bad_kind", "_law_k15_kind", "_law_k15_right", "HeadError", "BadEnd", "BadKind"]
def names1 : List Str := ["MOST_ENDS"]
def names : List Str := names0 ++ names1
abbrev R : PySem.W.OpenRow := PySem.W.OpenLaw.row PySem.Challenge.rw_oneuseheads_k15_ends_of_kinds
abbrev hk : PySem.W.Hook := He.hookX 5 [] fnl [] tfl exF
def ob (s : PySem.W.SharedT) : He.AlX := He.obsX 5 [] fnl [] tfl exF (HandSHeadRun.getT s)
theorem ob_eq (s : PySem.W.SharedT) : ob s = hk.obs s.abs := He.obsX_eq (HandSHeadRun.getT_eq s)
end G

set_option linter.all false
set_option maxRecDepth 100000
set_option maxHeartbeats 4000000
namespace G
open PySem PySem.Spec PyProof.Rows L2 Q
theorem run (w : World) : HandSHeadRun.RunEq R (PySem.W.view R.prog [35]) hk ob 20000 names w := by
  intro os
  kernel_rfl
end G

set_option linter.all false
set_option maxRecDepth 100000
set_option maxHeartbeats 4000000
namespace G
open PySem PySem.Spec PyProof.Rows L2 Q
section
variable {P : Program} {w : World} {K : PySem.W.Frag} {h : Heap} {mg : Str → Option Value} {T : Tb} {base : Heap}
structure Fds (K : PySem.W.Frag) : Prop where
  d_is_whole : ∃ fd cdv, FDx K "is_whole" st_is_whole fd cdv
  d_is_word : ∃ fd cdv, FDx K "is_word" st_is_word fd cdv
  d_is_kind : ∃ fd cdv, FDx K "is_kind" st_is_kind fd cdv
  d_need_kind : ∃ fd cdv, FDx K "need_kind" st_need_kind fd cdv
  d_arguments_of : ∃ fd cdv, FDx K "arguments_of" st_arguments_of fd cdv
  d_many_ends : ∃ fd cdv, FDx K "many_ends" st_many_ends fd cdv
  d_signs_of : ∃ fd cdv, FDd K "signs_of" st_signs_of [(.bl true)] fd cdv
  d_signs : ∃ fd cdv, FDx K "signs" st_signs fd cdv
  d_add_parts : ∃ fd cdv, FDx K "add_parts" st_add_parts fd cdv
  d_parts_of_ends : ∃ fd cdv, FDx K "parts_of_ends" st_parts_of_ends fd cdv
  d_parts : ∃ fd cdv, FDx K "parts" st_parts fd cdv
  d_is_end : ∃ fd cdv, FDx K "is_end" st_is_end fd cdv
  d_keeper : ∃ fd cdv, FDx K "keeper" st_keeper fd cdv
  d__law_begun : ∃ fd cdv, FDx K "_law_begun" st__law_begun fd cdv
  d__law_blended : ∃ fd cdv, FDx K "_law_blended" st__law_blended fd cdv
  d__law_draw : ∃ fd cdv, FDx K "_law_draw" st__law_draw fd cdv
  d__law_pick : ∃ fd cdv, FDx K "_law_pick" st__law_pick fd cdv
  d__law_caught : ∃ fd cdv, FDx K "_law_caught" st__law_caught fd cdv
  d__law_oh_same : ∃ fd cdv, FDx K "_law_oh_same" st__law_oh_same fd cdv
  d__law_hd_size : ∃ fd cdv, FDx K "_law_hd_size" st__law_hd_size fd cdv
  d__law_hd_wanted : ∃ fd cdv, FDx K "_law_hd_wanted" st__law_hd_wanted fd cdv
  d__law_hd_signs : ∃ fd cdv, FDx K "_law_hd_signs" st__law_hd_signs fd cdv
  d__law_hd_parts : ∃ fd cdv, FDx K "_law_hd_parts" st__law_hd_parts fd cdv
  d__law_hd_any_kind : ∃ fd cdv, FDx K "_law_hd_any_kind" st__law_hd_any_kind fd cdv
  d__law_hd_bad_kind : ∃ fd cdv, FDx K "_law_hd_bad_kind" st__law_hd_bad_kind fd cdv
  d__law_k15_kind : ∃ fd cdv, FDx K "_law_k15_kind" st__law_k15_kind fd cdv
  d__law_k15_right : ∃ fd cdv, FDx K "_law_k15_right" st__law_k15_right fd cdv
  d_law : ∃ fd cdv, FDx K "law" st_law fd cdv
theorem fds_of (c : He.SaysD [] fnl K) : Fds K where
  d_is_whole := fdx_of c (List.mem_iff_getElem?.mpr ⟨0, rfl⟩)
  d_is_word := fdx_of c (List.mem_iff_getElem?.mpr ⟨1, rfl⟩)
  d_is_kind := fdx_of c (List.mem_iff_getElem?.mpr ⟨2, rfl⟩)
  d_need_kind := fdx_of c (List.mem_iff_getElem?.mpr ⟨3, rfl⟩)
  d_arguments_of := fdx_of c (List.mem_iff_getElem?.mpr ⟨4, rfl⟩)
  d_many_ends := fdx_of c (List.mem_iff_getElem?.mpr ⟨5, rfl⟩)
  d_signs_of := fdd_of c (List.mem_iff_getElem?.mpr ⟨6, rfl⟩)
  d_signs := fdx_of c (List.mem_iff_getElem?.mpr ⟨7, rfl⟩)
  d_add_parts := fdx_of c (List.mem_iff_getElem?.mpr ⟨8, rfl⟩)
  d_parts_of_ends := fdx_of c (List.mem_iff_getElem?.mpr ⟨9, rfl⟩)
  d_parts := fdx_of c (List.mem_iff_getElem?.mpr ⟨10, rfl⟩)
  d_is_end := fdx_of c (List.mem_iff_getElem?.mpr ⟨11, rfl⟩)
  d_keeper := fdx_of c (List.mem_iff_getElem?.mpr ⟨12, rfl⟩)
  d__law_begun := fdx_of c (List.mem_iff_getElem?.mpr ⟨13, rfl⟩)
  d__law_blended := fdx_of c (List.mem_iff_getElem?.mpr ⟨14, rfl⟩)
  d__law_draw := fdx_of c (List.mem_iff_getElem?.mpr ⟨15, rfl⟩)
  d__law_pick := fdx_of c (List.mem_iff_getElem?.mpr ⟨16, rfl⟩)
  d__law_caught := fdx_of c (List.mem_iff_getElem?.mpr ⟨17, rfl⟩)
  d__law_oh_same := fdx_of c (List.mem_iff_getElem?.mpr ⟨18, rfl⟩)
  d__law_hd_size := fdx_of c (List.mem_iff_getElem?.mpr ⟨19, rfl⟩)
  d__law_hd_wanted := fdx_of c (List.mem_iff_getElem?.mpr ⟨20, rfl⟩)
  d__law_hd_signs := fdx_of c (List.mem_iff_getElem?.mpr ⟨21, rfl⟩)
  d__law_hd_parts := fdx_of c (List.mem_iff_getElem?.mpr ⟨22, rfl⟩)
  d__law_hd_any_kind := fdx_of c (List.mem_iff_getElem?.mpr ⟨23, rfl⟩)
  d__law_hd_bad_kind := fdx_of c (List.mem_iff_getElem?.mpr ⟨24, rfl⟩)
  d__law_k15_kind := fdx_of c (List.mem_iff_getElem?.mpr ⟨25, rfl⟩)
  d__law_k15_right := fdx_of c (List.mem_iff_getElem?.mpr ⟨26, rfl⟩)
  d_law := fdx_of c (List.mem_iff_getElem?.mpr ⟨27, rfl⟩)
theorem oks_zero (D : Fds K) (hm : ∀ x ∈ glos, mg x = some (.ref (He.ga K x))) {k : Nat} : Oks P w K mg T base k zero := by
  constructor
  · obtain ⟨fd, cdv, F⟩ := D.d_is_whole
    exact F.cal (ps := ["value"]) (hm _ (by decide +kernel)) (fun _ _ _ _ _ us hl => match us, hl with | [_], _ => rfl) fn_zero (fun _ _ _ => rfl)
  · obtain ⟨fd, cdv, F⟩ := D.d_is_word
    exact F.cal (ps := ["value", "word", "size"]) (hm _ (by decide +kernel)) (fun _ _ _ _ _ us hl => match us, hl with | [_, _, _], _ => rfl) fn_zero (fun _ _ _ => rfl)
  · obtain ⟨fd, cdv, F⟩ := D.d_is_kind
    exact F.cal (ps := ["value"]) (hm _ (by decide +kernel)) (fun _ _ _ _ _ us hl => match us, hl with | [_], _ => rfl) fn_zero (fun _ _ _ => rfl)
  · obtain ⟨fd, cdv, F⟩ := D.d_need_kind
    exact F.cal (ps := ["value"]) (hm _ (by decide +kernel)) (fun _ _ _ _ _ us hl => match us, hl with | [_], _ => rfl) fn_zero (fun _ _ _ => rfl)
  · obtain ⟨fd, cdv, F⟩ := D.d_arguments_of
    exact F.cal (ps := ["kind"]) (hm _ (by decide +kernel)) (fun _ _ _ _ _ us hl => match us, hl with | [_], _ => rfl) fn_zero (fun _ _ _ => rfl)
  · obtain ⟨fd, cdv, F⟩ := D.d_many_ends
    exact F.cal (ps := ["kind"]) (hm _ (by decide +kernel)) (fun _ _ _ _ _ us hl => match us, hl with | [_], _ => rfl) fn_zero (fun _ _ _ => rfl)
  · obtain ⟨fd, cdv, F⟩ := D.d_signs_of
    exact F.cal (ps := ["kind", "is_asked"]) (hm _ (by decide +kernel)) 2 1 [] (by decide) (by decide) (fun _ _ _ _ _ _ _ us its l1 l2 => match us, l1, its, l2 with | [_, _], _, [_], _ => ⟨_, rfl, rfl⟩) (fun _ _ _ => .nil) fn_zero (fun _ _ _ => rfl)
  · obtain ⟨fd, cdv, F⟩ := D.d_signs_of
    exact F.cal (ps := ["kind", "is_asked"]) (hm _ (by decide +kernel)) 1 0 [.bl true] (by decide) (by decide) (fun _ _ _ _ _ _ _ us its l1 l2 => match us, l1, its, l2 with | [_], _, [_], _ => ⟨_, rfl, rfl⟩) (fun _ _ _ => (.cons (.bl _) .nil)) fn_zero (fun _ _ _ => rfl)
  · obtain ⟨fd, cdv, F⟩ := D.d_signs
    exact F.cal (ps := ["kind"]) (hm _ (by decide +kernel)) (fun _ _ _ _ _ us hl => match us, hl with | [_], _ => rfl) fn_zero (fun _ _ _ => rfl)
  · obtain ⟨fd, cdv, F⟩ := D.d_signs
    exact F.calK (ps := ["kind"]) (hm _ (by decide +kernel)) (fun _ _ _ _ _ ws hl => match ws, hl with | [], h => absurd h (by simp [reord]) | _ :: _, _ => rfl) fn_zero (fun _ _ _ => rfl)
  · obtain ⟨fd, cdv, F⟩ := D.d_add_parts
    exact F.cal (ps := ["kind", "first", "found"]) (hm _ (by decide +kernel)) (fun _ _ _ _ _ us hl => match us, hl with | [_, _, _], _ => rfl) fn_zero (fun _ _ _ => rfl)
  · obtain ⟨fd, cdv, F⟩ := D.d_parts_of_ends
    exact F.cal (ps := ["kind"]) (hm _ (by decide +kernel)) (fun _ _ _ _ _ us hl => match us, hl with | [_], _ => rfl) fn_zero (fun _ _ _ => rfl)
  · obtain ⟨fd, cdv, F⟩ := D.d_parts
    exact F.cal (ps := ["kind"]) (hm _ (by decide +kernel)) (fun _ _ _ _ _ us hl => match us, hl with | [_], _ => rfl) fn_zero (fun _ _ _ => rfl)
  · obtain ⟨fd, cdv, F⟩ := D.d_parts
    exact F.calK (ps := ["kind"]) (hm _ (by decide +kernel)) (fun _ _ _ _ _ ws hl => match ws, hl with | [], h => absurd h (by simp [reord]) | _ :: _, _ => rfl) fn_zero (fun _ _ _ => rfl)
  · obtain ⟨fd, cdv, F⟩ := D.d_is_end
    exact F.cal (ps := ["kind", "value"]) (hm _ (by decide +kernel)) (fun _ _ _ _ _ us hl => match us, hl with | [_, _], _ => rfl) fn_zero (fun _ _ _ => rfl)
  · obtain ⟨fd, cdv, F⟩ := D.d_keeper
    exact F.cal (ps := ["kind", "end"]) (hm _ (by decide +kernel)) (fun _ _ _ _ _ us hl => match us, hl with | [_, _], _ => rfl) fn_zero (fun _ _ _ => rfl)
  · obtain ⟨fd, cdv, F⟩ := D.d_keeper
    exact F.calK (ps := ["kind", "end"]) (hm _ (by decide +kernel)) (fun _ _ _ _ _ ws hl => match ws, hl with | [], h => absurd h (by simp [reord]) | [_], h => absurd h (by simp [reord]) | _ :: _ :: _, _ => rfl) fn_zero (fun _ _ _ => rfl)
  · obtain ⟨fd, cdv, F⟩ := D.d__law_begun
    exact F.cal (ps := ["_law_script"]) (hm _ (by decide +kernel)) (fun _ _ _ _ _ us hl => match us, hl with | [_], _ => rfl) fn_zero (fun _ _ _ => rfl)
  · obtain ⟨fd, cdv, F⟩ := D.d__law_blended
    exact F.cal (ps := ["_law_state"]) (hm _ (by decide +kernel)) (fun _ _ _ _ _ us hl => match us, hl with | [_], _ => rfl) fn_zero (fun _ _ _ => rfl)
  · obtain ⟨fd, cdv, F⟩ := D.d__law_draw
    exact F.cal (ps := ["_law_state", "_law_room"]) (hm _ (by decide +kernel)) (fun _ _ _ _ _ us hl => match us, hl with | [_, _], _ => rfl) fn_zero (fun _ _ _ => rfl)
  · obtain ⟨fd, cdv, F⟩ := D.d__law_pick
    exact F.cal (ps := ["_law_state", "_law_some"]) (hm _ (by decide +kernel)) (fun _ _ _ _ _ us hl => match us, hl with | [_, _], _ => rfl) fn_zero (fun _ _ _ => rfl)
  · obtain ⟨fd, cdv, F⟩ := D.d__law_oh_same
    exact F.cal (ps := ["_law_found", "_law_due"]) (hm _ (by decide +kernel)) (fun _ _ _ _ _ us hl => match us, hl with | [_, _], _ => rfl) fn_zero (fun _ _ _ => rfl)
  · obtain ⟨fd, cdv, F⟩ := D.d__law_hd_size
    exact F.cal (ps := ["_law_kind"]) (hm _ (by decide +kernel)) (fun _ _ _ _ _ us hl => match us, hl with | [_], _ => rfl) fn_zero (fun _ _ _ => rfl)
  · obtain ⟨fd, cdv, F⟩ := D.d__law_hd_wanted
    exact F.cal (ps := ["_law_kind"]) (hm _ (by decide +kernel)) (fun _ _ _ _ _ us hl => match us, hl with | [_], _ => rfl) fn_zero (fun _ _ _ => rfl)
  · obtain ⟨fd, cdv, F⟩ := D.d__law_hd_signs
    exact F.cal (ps := ["_law_kind"]) (hm _ (by decide +kernel)) (fun _ _ _ _ _ us hl => match us, hl with | [_], _ => rfl) fn_zero (fun _ _ _ => rfl)
  · obtain ⟨fd, cdv, F⟩ := D.d__law_hd_parts
    exact F.cal (ps := ["_law_kind", "_law_first", "_law_found"]) (hm _ (by decide +kernel)) (fun _ _ _ _ _ us hl => match us, hl with | [_, _, _], _ => rfl) fn_zero (fun _ _ _ => rfl)
  · obtain ⟨fd, cdv, F⟩ := D.d__law_hd_any_kind
    exact F.cal (ps := ["_law_state", "_law_deep"]) (hm _ (by decide +kernel)) (fun _ _ _ _ _ us hl => match us, hl with | [_, _], _ => rfl) fn_zero (fun _ _ _ => rfl)
  · obtain ⟨fd, cdv, F⟩ := D.d__law_hd_bad_kind
    exact F.cal (ps := ["_law_state"]) (hm _ (by decide +kernel)) (fun _ _ _ _ _ us hl => match us, hl with | [_], _ => rfl) fn_zero (fun _ _ _ => rfl)
  · obtain ⟨fd, cdv, F⟩ := D.d__law_k15_kind
    exact F.cal (ps := ["_law_state"]) (hm _ (by decide +kernel)) (fun _ _ _ _ _ us hl => match us, hl with | [_], _ => rfl) fn_zero (fun _ _ _ => rfl)
  · obtain ⟨fd, cdv, F⟩ := D.d__law_k15_right
    exact F.cal (ps := ["_law_kind"]) (hm _ (by decide +kernel)) (fun _ _ _ _ _ us hl => match us, hl with | [_], _ => rfl) fn_zero (fun _ _ _ => rfl)
  · obtain ⟨fd, cdv, F⟩ := D.d_law
    exact F.cal (ps := ["_law_script"]) (hm _ (by decide +kernel)) (fun _ _ _ _ _ us hl => match us, hl with | [_], _ => rfl) fn_zero (fun _ _ _ => rfl)
theorem oks_step (D : Fds K) (G : Gs K mg) (hm : ∀ x ∈ glos, mg x = some (.ref (He.ga K x))) (mk : ∀ cdv fd, FDx K "law" st_law fd cdv → MkOf base mg T "law" cdv) {n : Nat} {C L : Nat → List Vl → M Vl} (hA : Oks P w K mg T base (n + 2) C) (hL : Oks P w K mg T base n L) : Oks P w K mg T base (n + 3) (step C L) := by
  constructor
  · obtain ⟨fd, cdv, F⟩ := D.d_is_whole
    exact F.cal (ps := ["value"]) (hm _ (by decide +kernel)) (fun _ _ _ _ _ us hl => match us, hl with | [_], _ => rfl) (ok_is_whole G hA hL F.tx) runF_len
  · obtain ⟨fd, cdv, F⟩ := D.d_is_word
    exact F.cal (ps := ["value", "word", "size"]) (hm _ (by decide +kernel)) (fun _ _ _ _ _ us hl => match us, hl with | [_, _, _], _ => rfl) (ok_is_word G hA hL F.tx) runF_len
  · obtain ⟨fd, cdv, F⟩ := D.d_is_kind
    exact F.cal (ps := ["value"]) (hm _ (by decide +kernel)) (fun _ _ _ _ _ us hl => match us, hl with | [_], _ => rfl) (ok_is_kind G hA hL F.tx) runF_len
  · obtain ⟨fd, cdv, F⟩ := D.d_need_kind
    exact F.cal (ps := ["value"]) (hm _ (by decide +kernel)) (fun _ _ _ _ _ us hl => match us, hl with | [_], _ => rfl) (ok_need_kind G hA hL F.tx) runF_len
  · obtain ⟨fd, cdv, F⟩ := D.d_arguments_of
    exact F.cal (ps := ["kind"]) (hm _ (by decide +kernel)) (fun _ _ _ _ _ us hl => match us, hl with | [_], _ => rfl) (ok_arguments_of G hA hL F.tx) runF_len
  · obtain ⟨fd, cdv, F⟩ := D.d_many_ends
    exact F.cal (ps := ["kind"]) (hm _ (by decide +kernel)) (fun _ _ _ _ _ us hl => match us, hl with | [_], _ => rfl) (ok_many_ends G hA hL F.tx) runF_len
  · obtain ⟨fd, cdv, F⟩ := D.d_signs_of
    exact F.cal (ps := ["kind", "is_asked"]) (hm _ (by decide +kernel)) 2 1 [] (by decide) (by decide) (fun _ _ _ _ _ _ _ us its l1 l2 => match us, l1, its, l2 with | [_, _], _, [_], _ => ⟨_, rfl, rfl⟩) (fun _ _ _ => .nil) (ok_signs_of G hA hL F.tx) runF_len
  · obtain ⟨fd, cdv, F⟩ := D.d_signs_of
    exact F.cal (ps := ["kind", "is_asked"]) (hm _ (by decide +kernel)) 1 0 [.bl true] (by decide) (by decide) (fun _ _ _ _ _ _ _ us its l1 l2 => match us, l1, its, l2 with | [_], _, [_], _ => ⟨_, rfl, rfl⟩) (fun _ _ _ => (.cons (.bl _) .nil)) (ok_signs_of G hA hL F.tx) runF_len
  · obtain ⟨fd, cdv, F⟩ := D.d_signs
    exact F.cal (ps := ["kind"]) (hm _ (by decide +kernel)) (fun _ _ _ _ _ us hl => match us, hl with | [_], _ => rfl) (ok_signs G hA hL F.tx) runF_len
  · obtain ⟨fd, cdv, F⟩ := D.d_signs
    exact F.calK (ps := ["kind"]) (hm _ (by decide +kernel)) (fun _ _ _ _ _ ws hl => match ws, hl with | [], h => absurd h (by simp [reord]) | _ :: _, _ => rfl) (ok_signs G hA hL F.tx) runF_len
  · obtain ⟨fd, cdv, F⟩ := D.d_add_parts
    exact F.cal (ps := ["kind", "first", "found"]) (hm _ (by decide +kernel)) (fun _ _ _ _ _ us hl => match us, hl with | [_, _, _], _ => rfl) (ok_add_parts G hA hL F.tx) runF_len
  · obtain ⟨fd, cdv, F⟩ := D.d_parts_of_ends
    exact F.cal (ps := ["kind"]) (hm _ (by decide +kernel)) (fun _ _ _ _ _ us hl => match us, hl with | [_], _ => rfl) (ok_parts_of_ends G hA hL F.tx) runF_len
  · obtain ⟨fd, cdv, F⟩ := D.d_parts
    exact F.cal (ps := ["kind"]) (hm _ (by decide +kernel)) (fun _ _ _ _ _ us hl => match us, hl with | [_], _ => rfl) (ok_parts G hA hL F.tx) runF_len
  · obtain ⟨fd, cdv, F⟩ := D.d_parts
    exact F.calK (ps := ["kind"]) (hm _ (by decide +kernel)) (fun _ _ _ _ _ ws hl => match ws, hl with | [], h => absurd h (by simp [reord]) | _ :: _, _ => rfl) (ok_parts G hA hL F.tx) runF_len
  · obtain ⟨fd, cdv, F⟩ := D.d_is_end
    exact F.cal (ps := ["kind", "value"]) (hm _ (by decide +kernel)) (fun _ _ _ _ _ us hl => match us, hl with | [_, _], _ => rfl) (ok_is_end G hA hL F.tx) runF_len
  · obtain ⟨fd, cdv, F⟩ := D.d_keeper
    exact F.cal (ps := ["kind", "end"]) (hm _ (by decide +kernel)) (fun _ _ _ _ _ us hl => match us, hl with | [_, _], _ => rfl) (ok_keeper G hA hL F.tx) runF_len
  · obtain ⟨fd, cdv, F⟩ := D.d_keeper
    exact F.calK (ps := ["kind", "end"]) (hm _ (by decide +kernel)) (fun _ _ _ _ _ ws hl => match ws, hl with | [], h => absurd h (by simp [reord]) | [_], h => absurd h (by simp [reord]) | _ :: _ :: _, _ => rfl) (ok_keeper G hA hL F.tx) runF_len
  · obtain ⟨fd, cdv, F⟩ := D.d__law_begun
    exact F.cal (ps := ["_law_script"]) (hm _ (by decide +kernel)) (fun _ _ _ _ _ us hl => match us, hl with | [_], _ => rfl) (ok__law_begun G hA hL F.tx) runF_len
  · obtain ⟨fd, cdv, F⟩ := D.d__law_blended
    exact F.cal (ps := ["_law_state"]) (hm _ (by decide +kernel)) (fun _ _ _ _ _ us hl => match us, hl with | [_], _ => rfl) (ok__law_blended G hA hL F.tx) runF_len
  · obtain ⟨fd, cdv, F⟩ := D.d__law_draw
    exact F.cal (ps := ["_law_state", "_law_room"]) (hm _ (by decide +kernel)) (fun _ _ _ _ _ us hl => match us, hl with | [_, _], _ => rfl) (ok__law_draw G hA hL F.tx) runF_len
  · obtain ⟨fd, cdv, F⟩ := D.d__law_pick
    exact F.cal (ps := ["_law_state", "_law_some"]) (hm _ (by decide +kernel)) (fun _ _ _ _ _ us hl => match us, hl with | [_, _], _ => rfl) (ok__law_pick G hA hL F.tx) runF_len
  · obtain ⟨fd, cdv, F⟩ := D.d__law_oh_same
    exact F.cal (ps := ["_law_found", "_law_due"]) (hm _ (by decide +kernel)) (fun _ _ _ _ _ us hl => match us, hl with | [_, _], _ => rfl) (ok__law_oh_same G hA hL F.tx) runF_len
  · obtain ⟨fd, cdv, F⟩ := D.d__law_hd_size
    exact F.cal (ps := ["_law_kind"]) (hm _ (by decide +kernel)) (fun _ _ _ _ _ us hl => match us, hl with | [_], _ => rfl) (ok__law_hd_size G hA hL F.tx) runF_len
  · obtain ⟨fd, cdv, F⟩ := D.d__law_hd_wanted
    exact F.cal (ps := ["_law_kind"]) (hm _ (by decide +kernel)) (fun _ _ _ _ _ us hl => match us, hl with | [_], _ => rfl) (ok__law_hd_wanted G hA hL F.tx) runF_len
  · obtain ⟨fd, cdv, F⟩ := D.d__law_hd_signs
    exact F.cal (ps := ["_law_kind"]) (hm _ (by decide +kernel)) (fun _ _ _ _ _ us hl => match us, hl with | [_], _ => rfl) (ok__law_hd_signs G hA hL F.tx) runF_len
  · obtain ⟨fd, cdv, F⟩ := D.d__law_hd_parts
    exact F.cal (ps := ["_law_kind", "_law_first", "_law_found"]) (hm _ (by decide +kernel)) (fun _ _ _ _ _ us hl => match us, hl with | [_, _, _], _ => rfl) (ok__law_hd_parts G hA hL F.tx) runF_len
  · obtain ⟨fd, cdv, F⟩ := D.d__law_hd_any_kind
    exact F.cal (ps := ["_law_state", "_law_deep"]) (hm _ (by decide +kernel)) (fun _ _ _ _ _ us hl => match us, hl with | [_, _], _ => rfl) (ok__law_hd_any_kind G hA hL F.tx) runF_len
  · obtain ⟨fd, cdv, F⟩ := D.d__law_hd_bad_kind
    exact F.cal (ps := ["_law_state"]) (hm _ (by decide +kernel)) (fun _ _ _ _ _ us hl => match us, hl with | [_], _ => rfl) (ok__law_hd_bad_kind G hA hL F.tx) runF_len
  · obtain ⟨fd, cdv, F⟩ := D.d__law_k15_kind
    exact F.cal (ps := ["_law_state"]) (hm _ (by decide +kernel)) (fun _ _ _ _ _ us hl => match us, hl with | [_], _ => rfl) (ok__law_k15_kind G hA hL F.tx) runF_len
  · obtain ⟨fd, cdv, F⟩ := D.d__law_k15_right
    exact F.cal (ps := ["_law_kind"]) (hm _ (by decide +kernel)) (fun _ _ _ _ _ us hl => match us, hl with | [_], _ => rfl) (ok__law_k15_right G hA hL F.tx) runF_len
  · obtain ⟨fd, cdv, F⟩ := D.d_law
    exact F.cal (ps := ["_law_script"]) (hm _ (by decide +kernel)) (fun _ _ _ _ _ us hl => match us, hl with | [_], _ => rfl) (ok_law G hA hL F.tx (mk cdv fd F)) runF_len
theorem oks_lev (D : Fds K) (G : Gs K mg) (hm : ∀ x ∈ glos, mg x = some (.ref (He.ga K x))) (mk : ∀ cdv fd, FDx K "law" st_law fd cdv → MkOf base mg T "law" cdv) : ∀ n, Oks P w K mg T base (n + 2) (lev n).1 ∧ Oks P w K mg T base (n + 1) (lev n).2.1 ∧ Oks P w K mg T base n (lev n).2.2
  | 0 => ⟨oks_zero D hm, oks_zero D hm, oks_zero D hm⟩
  | n + 1 => have ih := oks_lev D G hm mk n
    ⟨oks_step D G hm mk ih.1 ih.2.2, ih.1, ih.2.1⟩
theorem gs_of (X : K.In h) (N : h.Ns mainGlobals mg) (D : Fds K) (e : exF K = true) : Gs K mg := by
  unfold exF at e
  obtain ⟨e0, e⟩ := bb e
  obtain ⟨e1, e⟩ := bb e
  obtain ⟨e2, e⟩ := bb e
  obtain ⟨e3, e⟩ := bb e
  obtain ⟨e4, e⟩ := bb e
  obtain ⟨e5, e⟩ := bb e
  have e6 := e
  constructor
  · exact free_at X N e1 (by decide +kernel)
  · exact free_at X N e1 (by decide +kernel)
  · exact free_at X N e1 (by decide +kernel)
  · exact free_at X N e1 (by decide +kernel)
  · exact free_at X N e1 (by decide +kernel)
  · exact free_at X N e1 (by decide +kernel)
  · exact free_at X N e1 (by decide +kernel)
  · exact free_at X N e1 (by decide +kernel)
  · exact free_at X N e1 (by decide +kernel)
  · exact free_at X N e1 (by decide +kernel)
  · exact free_at X N e1 (by decide +kernel)
  · exact free_at X N e1 (by decide +kernel)
  · exact free_at X N e1 (by decide +kernel)
  · exact free_at X N e1 (by decide +kernel)
  · exact cst_of X N e6
  · exact ⟨_, glo_at X N e0 (by decide +kernel)⟩
  · exact ⟨_, glo_at X N e0 (by decide +kernel)⟩
  · exact excS_of X N e0 (by decide +kernel) e3
  · exact excS_of X N e0 (by decide +kernel) e4
  · obtain ⟨fd, cdv, F⟩ := D.d__law_caught
    exact caught_of X N e0 F (a := "_law_action") (r := "_law_found") (e := "error") (y := "HeadError") (by decide +kernel) (by decide +kernel) (by decide +kernel) e5 rfl (fun _ _ _ _ _ _ us hl => match us, hl with | [_], _ => rfl) (C8.fnScope_by (by decide +kernel)) (Or.inl rfl) (by decide +kernel) rfl rfl rfl (by decide +kernel) (by decide +kernel) (by decide +kernel) (by decide +kernel) (by decide +kernel) (by decide +kernel) (by decide +kernel) (by decide +kernel)
  · exact exs_of X N e0 (by decide +kernel) e2
end
end G

set_option linter.all false
set_option maxRecDepth 100000
set_option maxHeartbeats 4000000
namespace G
open PySem PySem.Spec PyProof.Rows L2 Q
abbrev NN : Nat := 229
/-- the plain law: what the law computes, of every script -/
def Plain : Prop := ∀ ns : List Int, ns.length ≤ 63 → (∀ z ∈ ns, Builtin.Int.intBits z ≤ 1048576) → ∃ S', (lev NN).1 27 [.ref 0] (S0 ns) = some (.ok (.bl true), S')
theorem law_at (pl : Plain) (l : PySem.W.OpenLaw) (w : World) (mg : Str → Option Value) (fa : Addr) (h : Heap) (Y : hk.says w h) (N : h.Ns mainGlobals mg) (hmg : mg "law" = some (.ref fa)) : ∃ K : PySem.W.Frag, K.In h ∧ LawG l w K (NN + 2) 63 "_law_script" mg fa h := by
  obtain ⟨K, X, c⟩ := Y
  have D : Fds K := fds_of c.t.d
  have e0 := (bb (show (glosB K glos && _) = true from c.more)).1
  have hm : ∀ x ∈ glos, mg x = some (.ref (He.ga K x)) := fun x hx => glo_at X N e0 hx
  have G := gs_of (mg := mg) X N D c.more
  have ea : fa = He.ga K "law" := by
    rw [hm "law" (by decide +kernel)] at hmg
    exact (Value.ref.inj (Option.some.inj hmg)).symm
  subst ea
  obtain ⟨fd, cdv, F⟩ := D.d_law
  refine ⟨K, X, fd, [He.cT K ("law", none)], spF K mg [((He.cT K ("law", none)).2, lamQ "law")] 1 ((lev NN).1 27), ?_, ?_, ?_, fun s u => ?_, fun H a ns h1 h2 h3 h4 => ?_, fun base hK hN hT => ?_⟩
  · intro p hp
    obtain rfl := List.mem_singleton.mp hp
    exact c.empty _ (by exact List.mem_singleton.mpr rfl)
  · intro p hp
    obtain rfl := List.mem_singleton.mp hp
    exact c.out _ (by exact List.mem_singleton.mpr rfl)
  · intro p hp
    obtain rfl := List.mem_singleton.mp hp
    exact PySem.W.codeHd_of_K X (c.hd _ (by exact List.mem_singleton.mpr rfl))
  · obtain ⟨oc, od, kV, doc, pm, an, ct, osl, rfl, lk, hcd⟩ := F.ex
    exact .of_eq rfl
  · refine law_sp (fun p hp => ?_) h4 (pl ns h1 h2)
    obtain rfl := List.mem_singleton.mp hp
    exact LamX.TabS.nil (h3 _ (List.mem_singleton.mpr rfl))
  · have mk : ∀ cdv fd, FDx K "law" st_law fd cdv → MkOf base mg [((He.cT K ("law", none)).2, lamQ "law")] "law" cdv := fun cdv fd F => by
      obtain ⟨cc, rfl, ec⟩ := F.code
      have hT := hT _ (List.mem_singleton.mpr rfl)
      refine ⟨cc, _, rfl, ?_, List.mem_singleton.mpr rfl, fun p hp _ => ?_⟩
      · have e2 : (He.cT K ("law", none)).1 = cc := ec
        rw [e2] at hT
        exact hT
      · obtain rfl := List.mem_singleton.mp hp
        rfl
    have ok := oks_lev (P := l.prog) (w := w) (base := base) (T := [((He.cT K ("law", none)).2, lamQ "law")]) D G hm mk (NN - 1)
    exact (ok_law G ok.1 ok.2.2 F.tx (mk cdv fd F))
end G
open PySem PySem.W PySem.Calls PyProof.Rows in
theorem G.holds (pl : G.Plain) : PySem.Challenge.rw_oneuseheads_k15_ends_of_kinds.Holds := by
  w_on; o_law
  refine HandSHeadRun.head_any (r := G.R) (q := view G.R.prog [35]) (H := G.hk) (ob := G.ob) (M := 20000) (loose := G.names) (d := HandSHeadRun.topDef G.R.prog 35) (kwd := []) G.ob_eq
    (by kernel_rfl) (fun s => by kernel_rfl) G.run (by kernel_rfl) (by kernel_rfl) (by kernel_rfl) (by rfl) (by first | assumption | decide +kernel) (by decide +kernel) ⟨rfl, rfl, rfl, rfl, rfl, by decide +kernel⟩ ?hw ?hc
  case hw => w_witness2
  case hc =>
    refine Q.walk_g (l := PySem.Challenge.rw_oneuseheads_k15_ends_of_kinds) (n := 63) (k := G.NN + 2) (x := "_law_script") rfl (by decide) (by kernel_rfl) ⟨rfl, by decide, by decide⟩ ?_
    intro w mg fa h Y N hmg
    have hmg : mg ("law" : PySem.Str) = some (.ref fa) := by
      have e : (HandSHeadRun.topDef G.R.prog 35).name = ("law" : PySem.Str) := by kernel_rfl
      rw [← e]
      exact hmg
    exact G.law_at pl _ w mg fa h Y N hmg

set_option linter.all false
set_option maxRecDepth 100000
set_option maxHeartbeats 400000
namespace Q
open PySem PySem.Spec PyProof.Rows L2

/-! ### what is wanted of a run -/
/-- what is wanted of an exception: its class, its field, the field's value, the store -/
abbrev XP := Str → Str → Vl → Sto → Prop
abbrev noE : XP := fun _ _ _ _ => False
def wpe {α : Type} (o : Option (R α × Sto)) (E : XP) (Q : α → Sto → Prop) : Prop := match o with
  | some (.ok a, S) => Q a S
  | some (.exc c f v, S) => E c f v S
  | none => False
def wpo {α : Type} (o : Option (α × Sto)) (Q : α → Sto → Prop) : Prop := match o with
  | some (a, S) => Q a S
  | none => False
/-- the ends of a statement -/
structure End_ where
  nx : En → Sto → Prop
  bk : En → Sto → Prop := fun _ _ => False
  ct : En → Sto → Prop := fun _ _ => False
  rt : Vl → Sto → Prop := fun _ _ => False
  ex : XP := noE
def wps (o : Option (Fl × En × Sto)) (D : End_) : Prop := match o with
  | some (.nx, ρ, S) => D.nx ρ S
  | some (.bk, ρ, S) => D.bk ρ S
  | some (.ct, ρ, S) => D.ct ρ S
  | some (.rt v, _, S) => D.rt v S
  | some (.ex c f v, _, S) => D.ex c f v S
  | none => False
section
variable {α β : Type} {E : XP} {S : Sto} {ρ : En} {D : End_}
theorem w_ok {a : α} {Q : α → Sto → Prop} : wpe (some (.ok a, S)) E Q = Q a S := rfl
theorem w_exc {c f : Str} {v : Vl} {Q : α → Sto → Prop} : wpe (some (.exc c f v, S)) E Q = E c f v S := rfl
theorem w_none {Q : α → Sto → Prop} : wpe none E Q = False := rfl
theorem w_ret {a : α} {Q : α → Sto → Prop} : wpe (ret a S) E Q = Q a S := rfl
theorem w_fail {Q : α → Sto → Prop} : wpe ((fail : M α) S) E Q = False := rfl
theorem w_bnd {m : M α} {k : α → M β} {Q : β → Sto → Prop} : wpe (bnd m k S) E Q = wpe (m S) E fun a S1 => wpe (k a S1) E Q := by
  unfold bnd
  cases m S with
  | none => rfl
  | some p => obtain ⟨r, S'⟩ := p; cases r <;> rfl
theorem w_lift {m : MO α} {Q : α → Sto → Prop} : wpe (lift m S) E Q = wpo (m S) Q := by
  unfold lift
  cases m S with
  | none => rfl
  | some p => obtain ⟨r, S'⟩ := p; rfl
theorem wo_some {a : α} {Q : α → Sto → Prop} : wpo (some (a, S)) Q = Q a S := rfl
theorem wo_none {Q : α → Sto → Prop} : wpo none Q = False := rfl
theorem wo_if {c : Prop} [Decidable c] {a b : Option (α × Sto)} {Q : α → Sto → Prop} : wpo (if c then a else b) Q = if c then wpo a Q else wpo b Q := by split <;> rfl
theorem w_if {c : Prop} [Decidable c] {a b : Option (R α × Sto)} {Q : α → Sto → Prop} : wpe (if c then a else b) E Q = if c then wpe a E Q else wpe b E Q := by split <;> rfl
theorem w_slot {i : Nat} {Q : Vl → Sto → Prop} : wpe (mSlot i ρ S) E Q = ∃ v, ρ[i]? = some (some v) ∧ Q v S := by
  unfold mSlot
  apply propext
  cases e : ρ[i]? with
  | none => exact ⟨fun h => h.elim, fun ⟨w, e2, _⟩ => by cases e2⟩
  | some o =>
    cases o with
    | none => exact ⟨fun h => h.elim, fun ⟨w, e2, _⟩ => by cases e2⟩
    | some v => exact ⟨fun h => ⟨v, rfl, h⟩, fun ⟨w, e2, h⟩ => by cases e2; exact h⟩
theorem w_c {v : Vl} {Q : Vl → Sto → Prop} : wpe (mC v ρ S) E Q = Q v S := rfl
theorem w_nil {Q : List Vl → Sto → Prop} : wpe (mNil ρ S) E Q = Q [] S := rfl
theorem w_cons {f : En → M Vl} {g : En → M (List Vl)} {Q : List Vl → Sto → Prop} : wpe (mCons f g ρ S) E Q = wpe (f ρ S) E fun x S1 => wpe (g ρ S1) E fun xs S2 => Q (x :: xs) S2 := by
  unfold mCons; simp only [w_bnd, w_ret]
theorem w_bin {m : Vl → Vl → MO Vl} {fa fb : En → M Vl} {Q : Vl → Sto → Prop} : wpe (mBin m fa fb ρ S) E Q = wpe (fa ρ S) E fun x S1 => wpe (fb ρ S1) E fun y S2 => wpo (m x y S2) Q := by
  unfold mBin; simp only [w_bnd, w_lift]
theorem w_bi {m : List Vl → MO Vl} {g : En → M (List Vl)} {Q : Vl → Sto → Prop} : wpe (mBi m g ρ S) E Q = wpe (g ρ S) E fun vs S1 => wpo (m vs S1) Q := by
  unfold mBi; simp only [w_bnd, w_lift]
theorem w_tup {g : En → M (List Vl)} {Q : Vl → Sto → Prop} : wpe (mTup g ρ S) E Q = wpe (g ρ S) E fun xs S1 => xs.length ≤ sizeLine ∧ Q (.tup xs) S1 := by
  unfold mTup; simp only [w_bnd, w_lift]
  congr 1; funext xs S1; apply propext
  by_cases h : xs.length ≤ sizeLine
  · rw [if_pos h]; exact ⟨fun q => ⟨h, q⟩, fun q => q.2⟩
  · rw [if_neg h]; exact ⟨fun q => q.elim, fun q => (h q.1).elim⟩
theorem w_lst {g : En → M (List Vl)} {Q : Vl → Sto → Prop} : wpe (mLst g ρ S) E Q = wpe (g ρ S) E fun xs S1 => xs.length ≤ sizeLine ∧ Q (.ref S1.n) (S1.push (.lst xs)) := by
  unfold mLst; simp only [w_bnd, w_lift]
  congr 1; funext xs S1; apply propext
  by_cases h : xs.length ≤ sizeLine
  · rw [if_pos h]; exact ⟨fun q => ⟨h, q⟩, fun q => q.2⟩
  · rw [if_neg h]; exact ⟨fun q => q.elim, fun q => (h q.1).elim⟩
theorem w_tst {f : En → M Vl} {Q : Bool → Sto → Prop} : wpe (mTst f ρ S) E Q = wpe (f ρ S) E fun v S1 => ∃ b, v = .bl b ∧ Q b S1 := by
  unfold mTst; simp only [w_bnd]
  congr 1; funext v S1; apply propext
  cases v with
  | bl b => exact ⟨fun q => ⟨b, rfl, q⟩, fun ⟨c, e, q⟩ => by cases e; exact q⟩
  | _ => exact ⟨fun q => q.elim, fun ⟨c, e, _⟩ => by cases e⟩
theorem w_not {f : En → M Bool} {Q : Bool → Sto → Prop} : wpe (mNot f ρ S) E Q = wpe (f ρ S) E fun b S1 => Q (!b) S1 := by
  unfold mNot; simp only [w_bnd, w_ret]
theorem w_and {f g : En → M Bool} {Q : Bool → Sto → Prop} : wpe (mAnd f g ρ S) E Q = wpe (f ρ S) E fun b S1 => if b = true then wpe (g ρ S1) E Q else Q false S1 := by
  unfold mAnd; simp only [w_bnd]
  congr 1; funext b S1; cases b <;> rfl
theorem w_or {f g : En → M Bool} {Q : Bool → Sto → Prop} : wpe (mOr f g ρ S) E Q = wpe (f ρ S) E fun b S1 => if b = true then Q true S1 else wpe (g ρ S1) E Q := by
  unfold mOr; simp only [w_bnd]
  congr 1; funext b S1; cases b <;> rfl
theorem w_ite {c : En → M Bool} {f g : En → M Vl} {Q : Vl → Sto → Prop} : wpe (mIte c f g ρ S) E Q = wpe (c ρ S) E fun b S1 => if b = true then wpe (f ρ S1) E Q else wpe (g ρ S1) E Q := by
  unfold mIte; simp only [w_bnd]
  congr 1; funext b S1; cases b <;> rfl
theorem w_andV {f g : En → M Vl} {Q : Vl → Sto → Prop} : wpe (mAndV f g ρ S) E Q = wpe (f ρ S) E fun v S1 => ∃ b, v = .bl b ∧ if b = true then wpe (g ρ S1) E Q else Q (.bl false) S1 := by
  unfold mAndV; simp only [w_bnd]
  congr 1; funext v S1; apply propext
  cases v with
  | bl b => exact ⟨fun q => ⟨b, rfl, by cases b <;> exact q⟩, fun ⟨c, e, q⟩ => by cases e; cases b <;> exact q⟩
  | _ => exact ⟨fun q => q.elim, fun ⟨c, e, _⟩ => by cases e⟩
theorem w_orV {f g : En → M Vl} {Q : Vl → Sto → Prop} : wpe (mOrV f g ρ S) E Q = wpe (f ρ S) E fun v S1 => ∃ b, v = .bl b ∧ if b = true then Q (.bl true) S1 else wpe (g ρ S1) E Q := by
  unfold mOrV; simp only [w_bnd]
  congr 1; funext v S1; apply propext
  cases v with
  | bl b => exact ⟨fun q => ⟨b, rfl, by cases b <;> exact q⟩, fun ⟨c, e, q⟩ => by cases e; cases b <;> exact q⟩
  | _ => exact ⟨fun q => q.elim, fun ⟨c, e, _⟩ => by cases e⟩
theorem w_call {f : List Vl → M Vl} {g : En → M (List Vl)} {Q : Vl → Sto → Prop} : wpe (mCall f [] g ρ S) E Q = wpe (g ρ S) E fun vs S1 => wpe (f vs S1) E Q := by
  unfold mCall; simp only [w_bnd, List.append_nil]
theorem w_callK {f : List Vl → M Vl} {p : List Nat} {g : En → M (List Vl)} {Q : Vl → Sto → Prop} : wpe (mCallK f p g ρ S) E Q = wpe (g ρ S) E fun vs S1 => wpe (f (reord p vs) S1) E Q := by
  unfold mCallK; simp only [w_bnd]
theorem w_met {Ty : String} {m : Vl → List Vl → MO Vl} {f : En → M Vl} {g : En → M (List Vl)} {Q : Vl → Sto → Prop} : wpe (mMet Ty m f g ρ S) E Q = wpe (f ρ S) E fun o S1 => tyB Ty S1 o = true ∧ wpe (g ρ S1) E fun as S2 => wpo (m o as S2) Q := by
  unfold mMet; simp only [w_bnd]
  congr 1; funext o S1; apply propext
  by_cases h : tyB Ty S1 o = true
  · rw [if_pos h, w_bnd]; simp only [w_lift]; exact ⟨fun q => ⟨h, q⟩, fun q => q.2⟩
  · rw [if_neg h]; exact ⟨fun q => q.elim, fun q => (h q.1).elim⟩
theorem w_caught {cs : List Str} {f : En → M Vl} {Q : Vl → Sto → Prop} : wpe (mCaught cs f ρ S) E Q = wpe (f ρ S) (fun c g v S1 => c ∈ cs ∧ g = "" ∧ v = .non ∧ Q (.exc c "" .non) S1) fun _ S1 => Q .non S1 := by
  unfold mCaught
  cases e : f ρ S with
  | none => rfl
  | some p =>
    obtain ⟨r, S1⟩ := p
    cases r with
    | ok v => rfl
    | exc c g v =>
      apply propext
      show wpe (if c ∈ cs then (match v with
        | .non => if g = "" then some (.ok (.exc c "" .non), S1) else none
        | _ => none) else none) E Q ↔ (c ∈ cs ∧ g = "" ∧ v = .non ∧ Q (.exc c "" .non) S1)
      by_cases hc : c ∈ cs
      · rw [if_pos hc]
        cases v with
        | non =>
          by_cases hg : g = ""
          · show wpe (if g = "" then some (.ok (.exc c "" .non), S1) else none) E Q ↔ _
            rw [if_pos hg]; exact ⟨fun q => ⟨hc, hg, rfl, q⟩, fun q => q.2.2.2⟩
          · show wpe (if g = "" then some (.ok (.exc c "" .non), S1) else none) E Q ↔ _
            rw [if_neg hg]; exact ⟨fun q => q.elim, fun q => (hg q.2.1).elim⟩
        | _ => exact ⟨fun q => q.elim, fun q => by cases q.2.2.1⟩
      · rw [if_neg hc]; exact ⟨fun q => q.elim, fun q => (hc q.1).elim⟩

/-! statements -/
theorem s_seq {a b : MS} : wps (sSeq a b ρ S) D = wps (a ρ S) { D with nx := fun ρ1 S1 => wps (b ρ1 S1) D } := by
  unfold sSeq
  cases a ρ S with
  | none => rfl
  | some p => obtain ⟨fl, ρ', S'⟩ := p; cases fl <;> rfl
theorem s_if {c : En → M Bool} {a b : MS} : wps (sIf c a b ρ S) D = wpe (c ρ S) D.ex fun t S1 => if t = true then wps (a ρ S1) D else wps (b ρ S1) D := by
  unfold sIf
  cases c ρ S with
  | none => rfl
  | some p =>
    obtain ⟨r, S'⟩ := p
    cases r with
    | ok t => cases t <;> rfl
    | exc c g v => rfl
theorem s_ret {f : En → M Vl} : wps (sRet f ρ S) D = wpe (f ρ S) D.ex D.rt := by
  unfold sRet
  cases f ρ S with
  | none => rfl
  | some p => obtain ⟨r, S'⟩ := p; cases r <;> rfl
theorem s_exp {f : En → M Vl} : wps (sExp f ρ S) D = wpe (f ρ S) D.ex fun _ S1 => D.nx ρ S1 := by
  unfold sExp
  cases f ρ S with
  | none => rfl
  | some p => obtain ⟨r, S'⟩ := p; cases r <;> rfl
theorem s_skip : wps (sSkip ρ S) D = D.nx ρ S := rfl
theorem s_cont : wps (sCont ρ S) D = D.ct ρ S := rfl
theorem s_break : wps (sBreak ρ S) D = D.bk ρ S := rfl
theorem s_raise {c : Str} : wps (sRaise c ρ S) D = D.ex c "" .non S := rfl
theorem s_set {f : En → M Vl} {i : Nat} : wps (sAsg f (gNm i) ρ S) D = wpe (f ρ S) D.ex fun v S1 => D.nx (ρ.set i (some v)) S1 := by
  unfold sAsg
  cases f ρ S with
  | none => rfl
  | some p => obtain ⟨r, S'⟩ := p; cases r <;> rfl
theorem s_asg {f : En → M Vl} {g : Vl → En → MO En} : wps (sAsg f g ρ S) D = wpe (f ρ S) D.ex fun v S1 => wpo (g v ρ S1) D.nx := by
  unfold sAsg
  cases f ρ S with
  | none => rfl
  | some p =>
    obtain ⟨r, S'⟩ := p
    cases r with
    | ok v =>
      show wps (match g v ρ S' with | none => none | some (ρ', S2) => some (.nx, ρ', S2)) D = wpo (g v ρ S') D.nx
      cases g v ρ S' with
      | none => rfl
      | some q => obtain ⟨a, b⟩ := q; rfl
    | exc c g v => rfl
theorem s_par {is : List Nat} {g : En → M (List Vl)} : wps (sPar is g ρ S) D = wpe (g ρ S) D.ex fun vs S1 => vs.length = is.length ∧ D.nx ((is.zip vs).foldl (fun ρ p => ρ.set p.1 (some p.2)) ρ) S1 := by
  unfold sPar
  cases g ρ S with
  | none => rfl
  | some p =>
    obtain ⟨r, S'⟩ := p
    cases r with
    | ok vs =>
      apply propext
      by_cases h : vs.length = is.length
      · show wps (if _ then _ else _) D ↔ _
        rw [if_pos h]; exact ⟨fun q => ⟨h, q⟩, fun q => q.2⟩
      · show wps (if _ then _ else _) D ↔ _
        rw [if_neg h]; exact ⟨fun q => q.elim, fun q => (h q.1).elim⟩
    | exc c g v => rfl
theorem s_aug {i : Nat} {f : En → M Vl} {m : Vl → Vl → MO Vl} : wps (sAug i f m ρ S) D = ∃ x, ρ[i]? = some (some x) ∧ wpe (f ρ S) D.ex fun v S1 => wpo (m x v S1) fun z S2 => D.nx (ρ.set i (some z)) S2 := by
  unfold sAug
  apply propext
  cases e : ρ[i]? with
  | none => exact ⟨fun h => h.elim, fun ⟨w, e2, _⟩ => by cases e2⟩
  | some o =>
    cases o with
    | none => exact ⟨fun h => h.elim, fun ⟨w, e2, _⟩ => by cases e2⟩
    | some x =>
      have key : wps (match f ρ S with
        | none => none
        | some (.ok v, S') => (match m x v S' with | none => none | some (z, S2) => some (.nx, ρ.set i (some z), S2))
        | some (.exc c g v, S') => some (.ex c g v, ρ, S')) D = wpe (f ρ S) D.ex fun v S1 => wpo (m x v S1) fun z S2 => D.nx (ρ.set i (some z)) S2 := by
        cases f ρ S with
        | none => rfl
        | some p =>
          obtain ⟨r, S'⟩ := p
          cases r with
          | ok v =>
            show wps (match m x v S' with | none => none | some (z, S2) => some (.nx, ρ.set i (some z), S2)) D = wpo (m x v S') _
            cases m x v S' with
            | none => rfl
            | some q => obtain ⟨a, b⟩ := q; rfl
          | exc c g v => rfl
      exact ⟨fun h => ⟨x, rfl, key ▸ h⟩, fun ⟨y, e2, h⟩ => by cases e2; exact key.symm ▸ h⟩
/-- a def's call -/
theorem w_run {nN np : Nat} {b : MS} {as : List Vl} {Q : Vl → Sto → Prop} (hl : as.length = np) (h : wps (b (startE nN as) S) ⟨fun _ S1 => Q .non S1, fun _ _ => False, fun _ _ => False, Q, E⟩) : wpe (runF nN np b as S) E Q := by
  unfold runF
  rw [if_pos hl]
  cases e : b (startE nN as) S with
  | none => rw [e] at h; exact h.elim
  | some p =>
    obtain ⟨fl, ρ', S'⟩ := p
    rw [e] at h
    cases fl with
    | nx => exact h
    | bk => exact h.elim
    | ct => exact h.elim
    | rt v => exact h
    | ex c g v => exact h
theorem wpe_mono {o : Option (R α × Sto)} {E E' : XP} {Q Q' : α → Sto → Prop} (h : wpe o E Q) (hq : ∀ a S, Q a S → Q' a S) (he : ∀ c f v S, E c f v S → E' c f v S) : wpe o E' Q' := by
  match o, h with
  | some (.ok a, S), h => exact hq a S h
  | some (.exc c f v, S), h => exact he c f v S h
theorem wps_mono {o : Option (Fl × En × Sto)} {D D' : End_} (h : wps o D) (h1 : ∀ ρ S, D.nx ρ S → D'.nx ρ S) (h2 : ∀ ρ S, D.bk ρ S → D'.bk ρ S) (h3 : ∀ ρ S, D.ct ρ S → D'.ct ρ S) (h4 : ∀ v S, D.rt v S → D'.rt v S) (h5 : ∀ c f v S, D.ex c f v S → D'.ex c f v S) : wps o D' := by
  match o, h with
  | some (.nx, ρ, S), h => exact h1 ρ S h
  | some (.bk, ρ, S), h => exact h2 ρ S h
  | some (.ct, ρ, S), h => exact h3 ρ S h
  | some (.rt v, _, S), h => exact h4 v S h
  | some (.ex c f v, _, S), h => exact h5 c f v S h
theorem wpe_ok {o : Option (R α × Sto)} {Q : α → Sto → Prop} (h : wpe o noE Q) : ∃ a S, o = some (.ok a, S) ∧ Q a S := by
  match o, h with
  | some (.ok a, S), h => exact ⟨a, S, rfl, h⟩
  | some (.exc c f v, S), h => exact h.elim
end

/-! ### loops -/
theorem lim_is {α : Type} {f : Nat → Option α} {r : α} {n : Nat} (h : f n = some r) (hm : ∀ n m a b, f n = some a → f m = some b → a = b) : lim f = some r := by
  have hx : ∃ n, (f n).isSome = true := ⟨n, by rw [h]; rfl⟩
  unfold lim
  rw [dif_pos hx]
  obtain ⟨b, hb⟩ := Option.isSome_iff_exists.mp (Classical.choose_spec hx)
  rw [hb, hm _ _ _ _ hb h]
theorem whN_mono {c : En → M Bool} {b : MS} : ∀ {n : Nat} {ρ : En} {S : Sto} {r : Fl × En × Sto}, whN c b n ρ S = some r → ∀ m, n ≤ m → whN c b m ρ S = some r
  | 0, _, _, _, h, _, _ => by cases h
  | n + 1, ρ, S, r, h, 0, hm => by omega
  | n + 1, ρ, S, r, h, m + 1, hm => by
    unfold whN at h ⊢
    cases e : c ρ S with
    | none => rw [e] at h; cases h
    | some p =>
      obtain ⟨q, S'⟩ := p
      rw [e] at h
      cases q with
      | exc _ _ _ => exact h
      | ok t =>
        cases t with
        | false => exact h
        | true =>
          simp only at h ⊢
          cases e2 : b ρ S' with
          | none => rw [e2] at h; cases h
          | some p2 =>
            obtain ⟨fl, ρ', S2⟩ := p2
            rw [e2] at h
            cases fl with
            | nx => exact whN_mono (n := n) h m (by omega)
            | ct => exact whN_mono (n := n) h m (by omega)
            | bk => exact h
            | rt v => exact h
            | ex _ _ _ => exact h
theorem forN_mono {nx : Nxt} {g : Vl → En → MO En} {b : MS} : ∀ {n i : Nat} {ρ : En} {S : Sto} {r : Fl × En × Sto}, forN nx g b n i ρ S = some r → ∀ m, n ≤ m → forN nx g b m i ρ S = some r
  | 0, _, _, _, _, h, _, _ => by cases h
  | n + 1, i, ρ, S, r, h, 0, hm => by omega
  | n + 1, i, ρ, S, r, h, m + 1, hm => by
    unfold forN at h ⊢
    cases e : nx i S with
    | none => rw [e] at h; cases h
    | some p =>
      rw [e] at h
      cases p with
      | none => exact h
      | some v =>
        simp only at h ⊢
        cases e1 : g v ρ S with
        | none => rw [e1] at h; cases h
        | some p1 =>
          obtain ⟨ρ1, S1⟩ := p1
          rw [e1] at h
          simp only at h ⊢
          cases e2 : b ρ1 S1 with
          | none => rw [e2] at h; cases h
          | some p2 =>
            obtain ⟨fl, ρ', S2⟩ := p2
            rw [e2] at h
            cases fl with
            | nx => exact forN_mono (n := n) h m (by omega)
            | ct => exact forN_mono (n := n) h m (by omega)
            | bk => exact h
            | rt v => exact h
            | ex _ _ _ => exact h
theorem det_of_mono {α : Type} {f : Nat → Option α} (h : ∀ n r, f n = some r → ∀ m, n ≤ m → f m = some r) : ∀ n m a b, f n = some a → f m = some b → a = b := fun n m a b e1 e2 => by
  rcases Nat.le_total n m with q | q
  · rw [h n a e1 m q] at e2; exact Option.some.inj e2
  · rw [h m b e2 n q] at e1; exact (Option.some.inj e1).symm
theorem wps_lim {f : Nat → Option (Fl × En × Sto)} {D : End_} {n : Nat} (hm : ∀ n r, f n = some r → ∀ m, n ≤ m → f m = some r) (h : wps (f n) D) : wps (lim f) D := by
  cases e : f n with
  | none => rw [e] at h; exact h.elim
  | some r => rw [lim_is e (det_of_mono hm), ← e]; exact h
/-- while, by an invariant with a measure -/
theorem s_while {c : En → M Bool} {b : MS} {D : End_} (J : Nat → En → Sto → Prop)
    (step : ∀ m ρ S, J m ρ S → wpe (c ρ S) D.ex fun t S1 => if t = true then wps (b ρ S1) ⟨fun ρ' S' => ∃ m', m' < m ∧ J m' ρ' S', D.nx, fun ρ' S' => ∃ m', m' < m ∧ J m' ρ' S', D.rt, D.ex⟩ else D.nx ρ S1) : ∀ {m : Nat} {ρ : En} {S : Sto}, J m ρ S → wps (sWhile c b ρ S) D := by
  intro m ρ S h
  have key : ∀ (m : Nat) (ρ : En) (S : Sto), J m ρ S → wps (whN c b (m + 1) ρ S) D := by
    intro m
    induction m using Nat.strongRecOn with
    | _ m ih =>
      intro ρ S h
      have q := step m ρ S h
      unfold whN
      cases e : c ρ S with
      | none => rw [e] at q; exact q.elim
      | some p =>
        obtain ⟨r, S1⟩ := p
        rw [e] at q
        cases r with
        | exc c g v => exact q
        | ok t =>
          cases t with
          | false => exact q
          | true =>
            have q : wps (b ρ S1) _ := q
            simp only
            cases e2 : b ρ S1 with
            | none => rw [e2] at q; exact q.elim
            | some p2 =>
              obtain ⟨fl, ρ', S2⟩ := p2
              rw [e2] at q
              have again : (∃ m', m' < m ∧ J m' ρ' S2) → wps (whN c b m ρ' S2) D := fun ⟨m', hm, hj⟩ => by
                have z := ih m' hm ρ' S2 hj
                cases e3 : whN c b (m' + 1) ρ' S2 with
                | none => rw [e3] at z; exact z.elim
                | some r => rw [whN_mono e3 m hm, ← e3]; exact z
              cases fl with
              | nx => exact again q
              | ct => exact again q
              | bk => exact q
              | rt v => exact q
              | ex _ _ _ => exact q
  exact wps_lim (n := m + 1) (fun n r e m' hm => whN_mono e m' hm) (key m ρ S h)
/-- for over a list of values that stays what it is -/
theorem s_forN {nx : Nxt} {g : Vl → En → MO En} {b : MS} {D : End_} (xs : List Vl) (J : Nat → En → Sto → Prop) (hn : ∀ i ρ S, i ≤ xs.length → J i ρ S → nx i S = some xs[i]?)
    (step : ∀ i x ρ S, xs[i]? = some x → J i ρ S → wpo (g x ρ S) fun ρ1 S1 => wps (b ρ1 S1) ⟨J (i + 1), D.nx, J (i + 1), D.rt, D.ex⟩) (done : ∀ ρ S, J xs.length ρ S → D.nx ρ S) :
    ∀ (k i : Nat) {ρ : En} {S : Sto}, i + k = xs.length → J i ρ S → wps (forN nx g b (k + 1) i ρ S) D
  | 0, i, ρ, S, hi, h => by
    unfold forN
    rw [hn i ρ S (by omega) h, List.getElem?_eq_none (by omega)]
    have e : i = xs.length := by omega
    rw [e] at h
    exact done ρ S h
  | k + 1, i, ρ, S, hi, h => by
    unfold forN
    have hx : xs[i]? = some xs[i] := List.getElem?_eq_getElem (by omega)
    have q := step i _ ρ S hx h
    rw [hn i ρ S (by omega) h, hx]
    simp only
    cases e : g xs[i] ρ S with
    | none => rw [e] at q; exact q.elim
    | some p =>
      obtain ⟨ρ1, S1⟩ := p
      rw [e] at q
      have q : wps (b ρ1 S1) _ := q
      simp only
      cases e2 : b ρ1 S1 with
      | none => rw [e2] at q; exact q.elim
      | some p2 =>
        obtain ⟨fl, ρ', S2⟩ := p2
        rw [e2] at q
        cases fl with
        | nx => exact s_forN xs J hn step done k (i + 1) (by omega) q
        | ct => exact s_forN xs J hn step done k (i + 1) (by omega) q
        | bk => exact q
        | rt v => exact q
        | ex _ _ _ => exact q
theorem s_for {fi : En → M Nxt} {g : Vl → En → MO En} {b : MS} {D : End_} {ρ : En} {S : Sto} (h : wpe (fi ρ S) D.ex fun nx S1 => ∃ (xs : List Vl) (J : Nat → En → Sto → Prop), J 0 ρ S1 ∧ (∀ i ρ S, i ≤ xs.length → J i ρ S → nx i S = some xs[i]?) ∧
    (∀ i x ρ S, xs[i]? = some x → J i ρ S → wpo (g x ρ S) fun ρ1 S1 => wps (b ρ1 S1) ⟨J (i + 1), D.nx, J (i + 1), D.rt, D.ex⟩) ∧ ∀ ρ S, J xs.length ρ S → D.nx ρ S) : wps (sFor fi g b ρ S) D := by
  unfold sFor
  cases e : fi ρ S with
  | none => rw [e] at h; exact h.elim
  | some p =>
    obtain ⟨r, S1⟩ := p
    rw [e] at h
    cases r with
    | exc c f v => exact h
    | ok nx =>
      obtain ⟨xs, J, h0, hn, step, done⟩ := h
      exact wps_lim (n := xs.length + 1) (fun n r e m hm => forN_mono e m hm) (s_forN xs J hn step done xs.length 0 (by omega) h0)
end Q

set_option linter.all false
set_option maxRecDepth 100000
set_option maxHeartbeats 400000
namespace Q
open PySem PySem.Spec PyProof.Rows L2

/-! ### what is wanted of the operators -/
section
variable {S : Sto} {Z : Vl → Sto → Prop} {i j : Int} {n m : Nat} {xs ys : List Vl} {v : Vl}
theorem o_isi {a : String} {b : String} (h : tyN S v = some a) (hb : b ∈ tyCs := by decide) : wpo (bIsi [v, .ty b] S) Z = Z (.bl (isT a b)) S := by
  show wpo (match tyN S v with | some a => if b ∈ tyCs then some (.bl (isT a b), S) else none | none => none) Z = _
  rw [h]; simp only; rw [if_pos hb]; rfl
theorem o_add : wpo (bAdd (.int i) (.int j) S) Z = Z (.int (i + j)) S := rfl
theorem o_sub : wpo (bSub (.int i) (.int j) S) Z = Z (.int (i - j)) S := rfl
theorem o_adds {a b : Str} : wpo (bAdd (.str a) (.str b) S) Z = (a.length + b.length ≤ sizeLine ∧ Z (.str (a ++ b)) S) := by
  show wpo (if _ then _ else _) Z = _
  apply propext
  by_cases h : a.length + b.length ≤ sizeLine
  · rw [if_pos h]; exact ⟨fun q => ⟨h, q⟩, fun q => q.2⟩
  · rw [if_neg h]; exact ⟨fun q => q.elim, fun q => (h q.1).elim⟩
theorem o_addt : wpo (bAdd (.tup xs) (.tup ys) S) Z = (xs.length + ys.length ≤ sizeLine ∧ Z (.tup (xs ++ ys)) S) := by
  show wpo (if _ then _ else _) Z = _
  apply propext
  by_cases h : xs.length + ys.length ≤ sizeLine
  · rw [if_pos h]; exact ⟨fun q => ⟨h, q⟩, fun q => q.2⟩
  · rw [if_neg h]; exact ⟨fun q => q.elim, fun q => (h q.1).elim⟩
theorem o_addl (h1 : S.at_ n = .lst xs) (h2 : S.at_ m = .lst ys) : wpo (bAdd (.ref n) (.ref m) S) Z = (xs.length + ys.length ≤ sizeLine ∧ Z (.ref S.n) (S.push (.lst (xs ++ ys)))) := by
  show wpo (match S.at_ n, S.at_ m with | .lst xs, .lst ys => if xs.length + ys.length ≤ sizeLine then some (.ref S.n, S.push (.lst (xs ++ ys))) else none | _, _ => none) Z = _
  rw [h1, h2]
  apply propext
  by_cases h : xs.length + ys.length ≤ sizeLine
  · simp only [if_pos h]; exact ⟨fun q => ⟨h, q⟩, fun q => q.2⟩
  · simp only [if_neg h]; exact ⟨fun q => q.elim, fun q => (h q.1).elim⟩
theorem o_mul (h : CMul i j) : wpo (bMul (.int i) (.int j) S) Z = Z (.int (i * j)) S := by
  show wpo (if CMul i j then some (.int (i * j), S) else none) Z = _
  rw [if_pos h]; rfl
theorem o_div (h : CDiv i j) : wpo (bDiv (.int i) (.int j) S) Z = Z (.int (i / j)) S := by
  show wpo (if CDiv i j then some (.int (i / j), S) else none) Z = _
  rw [if_pos h]; rfl
theorem o_mod (h : 0 < j) : wpo (bMod (.int i) (.int j) S) Z = Z (.int (i % j)) S := by
  show wpo (if 0 < j then some (.int (i % j), S) else none) Z = _
  rw [if_pos h]; rfl
theorem o_pow (h : CPow i j) : wpo (bPow (.int i) (.int j) S) Z = Z (.int (i ^ j.toNat)) S := by
  show wpo (if CPow i j then some (.int (i ^ j.toNat), S) else none) Z = _
  rw [if_pos h]; rfl
theorem o_cmp {p : Int → Int → Bool} : wpo (bCmp p (.int i) (.int j) S) Z = Z (.bl (p i j)) S := rfl
theorem o_abs : wpo (bAbs [.int i] S) Z = Z (.int (if i < 0 then -i else i)) S := rfl
theorem o_int : wpo (bInt [.int i] S) Z = Z (.int i) S := rfl
theorem o_lent : wpo (bLen [.tup xs] S) Z = Z (.int xs.length) S := rfl
theorem o_lenl (h : S.at_ n = .lst xs) : wpo (bLen [.ref n] S) Z = Z (.int xs.length) S := by
  show wpo (match S.at_ n with | .lst xs => some (.int xs.length, S) | .ro xs => some (.int xs.length, S) | .dic _ kvs => some (.int kvs.length, S) | _ => none) Z = _
  rw [h]; rfl
theorem o_lenr (h : S.at_ n = .ro xs) : wpo (bLen [.ref n] S) Z = Z (.int xs.length) S := by
  show wpo (match S.at_ n with | .lst xs => some (.int xs.length, S) | .ro xs => some (.int xs.length, S) | .dic _ kvs => some (.int kvs.length, S) | _ => none) Z = _
  rw [h]; rfl
theorem o_strs {a b : Str} : wpo (bEq (.str a) (.str b) S) Z = Z (.bl (decide (a = b))) S := rfl
theorem o_nstr {a b : Str} : wpo (bNe (.str a) (.str b) S) Z = Z (.bl (!decide (a = b))) S := rfl
theorem o_eqi : wpo (bEq (.int i) (.int j) S) Z = Z (.bl (i == j)) S := rfl
theorem o_nei : wpo (bNe (.int i) (.int j) S) Z = Z (.bl (!(i == j))) S := rfl
/-- == of data: what the data are -/
theorem o_eqd {a b : Vl} {d e : PyData} (h1 : toD S a = some d) (h2 : toD S b = some e) (hs : ¬ ∃ x y, a = .str x ∧ b = .str y) (c1 : d.canLay0 = true) (c2 : e.canLay0 = true) (c3 : min d.depth e.depth ≤ 190) : wpo (bEq a b S) Z = Z (.bl (PyData.eqv d e)) S := by
  rcases bEqW_eq (neg := false) (a := a) (b := b) with z | z
  · exact absurd z hs
  · show wpo (bEqW _ a b S) Z = _
    rw [z]; unfold bEqD; rw [h1, h2]; simp only [c1, c2, Bool.and_self, Bool.true_and, decide_eq_true_eq, if_pos c3]; rfl
theorem o_ned {a b : Vl} {d e : PyData} (h1 : toD S a = some d) (h2 : toD S b = some e) (hs : ¬ ∃ x y, a = .str x ∧ b = .str y) (c1 : d.canLay0 = true) (c2 : e.canLay0 = true) (c3 : min d.depth e.depth ≤ 190) : wpo (bNe a b S) Z = Z (.bl (!PyData.eqv d e)) S := by
  rcases bEqW_eq (neg := true) (a := a) (b := b) with z | z
  · exact absurd z hs
  · show wpo (bEqW _ a b S) Z = _
    rw [z]; unfold bEqD; rw [h1, h2]; simp only [c1, c2, Bool.and_self, Bool.true_and, decide_eq_true_eq, if_pos c3]; rfl
theorem o_at {k : Nat} (h : xs[k]? = some v) (hk : k < 2 ^ 62) : wpo (bSub' (.tup xs) (.int k) S) Z = Z v S := by
  have hl : k < xs.length := by
    rw [List.getElem?_eq_some_iff] at h; exact h.1
  have e : atI xs (k : Int) = some v := by
    unfold atI
    have e2 : seqIndex? (k : Int) xs.length = some k := by
      unfold seqIndex?
      have h1 : ¬ ((k : Int) < 0) := by omega
      simp only [h1, if_false]
      have h2 : (decide ((0 : Int) ≤ k) && decide ((k : Int) < xs.length)) = true := by simp; omega
      rw [if_pos h2]; simp
    have hb : -(2 ^ 63) ≤ (k : Int) ∧ (k : Int) < 2 ^ 63 := by constructor <;> omega
    have h9 : xs[k] = v := by rw [List.getElem?_eq_getElem hl] at h; exact Option.some.inj h
    simp [ixN, hb, e2, hl, h9]
  show wpo (match atI xs (k : Int) with | some v => some (v, S) | none => none) Z = _
  rw [e]; rfl
theorem o_at0 : wpo (bSub' (.tup (v :: xs)) (.int 0) S) Z = Z v S := o_at (k := 0) rfl (by decide)
theorem o_at1 {a : Vl} : wpo (bSub' (.tup (a :: v :: xs)) (.int 1) S) Z = Z v S := o_at (k := 1) rfl (by decide)
theorem o_at2 {a b : Vl} : wpo (bSub' (.tup (a :: b :: v :: xs)) (.int 2) S) Z = Z v S := o_at (k := 2) rfl (by decide)
theorem o_key {lk : Bool} {kvs : List (Vl × Vl)} {k : Vl} (h : S.at_ n = .dic lk kvs) (hk : (keyOf k).isSome = true) (hv : dGet kvs k = some v) : wpo (bSub' (.ref n) k S) Z = Z v S := by
  obtain ⟨κ, hκ⟩ := Option.isSome_iff_exists.mp hk
  have e : getD S n = some kvs := by unfold getD; rw [h]
  show wpo (match getD S n with
    | some kvs => (match keyOf k with
      | some _ => (match dGet kvs k with | some v => some (v, S) | none => none)
      | none => none)
    | none => bIdx (.ref n) k S) Z = _
  rw [e]; simp only; rw [hκ]; simp only; rw [hv]; rfl
theorem o_pop (h : S.at_ n = .lst (xs ++ [v])) : wpo (mtPop (.ref n) [] S) Z = Z v (S.set n (.lst xs)) := by
  show wpo (match S.at_ n with
    | .lst xs => (match xs[xs.length - 1]? with | some v => some (v, S.set n (.lst xs.dropLast)) | none => none)
    | _ => none) Z = _
  rw [h]
  simp only [List.length_append, List.length_cons, List.length_nil, Nat.add_sub_cancel, List.dropLast_concat]
  rw [List.getElem?_append_right (Nat.le_refl _), Nat.sub_self]
  rfl
theorem o_append (h : S.at_ n = .lst xs) (hl : xs.length < sizeLine) : wpo (mtAppend (.ref n) [v] S) Z = Z .non (S.set n (.lst (xs ++ [v]))) := by
  show wpo (match S.at_ n with
    | .lst xs => if xs.length < sizeLine then some (.non, S.set n (.lst (xs ++ [v]))) else none
    | _ => none) Z = _
  rw [h]; simp only; rw [if_pos hl]; rfl
theorem o_extend (h : S.at_ n = .lst xs) (h2 : S.at_ m = .lst ys) (hl : xs.length + ys.length ≤ sizeLine) : wpo (mtExtend (.ref n) [.ref m] S) Z = Z .non (S.set n (.lst (xs ++ ys))) := by
  show wpo (match S.at_ n, S.at_ m with
    | .lst xs, .lst ys => if xs.length + ys.length ≤ sizeLine then some (.non, S.set n (.lst (xs ++ ys))) else none
    | _, _ => none) Z = _
  rw [h, h2]; simp only; rw [if_pos hl]; rfl
theorem o_tyl (h : S.at_ n = .lst xs) : tyB "list" S (.ref n) = true := by
  show (match S.at_ n with | .lst _ => ("list" : String) == "list" | .ro _ => ("list" : String) == "list" | .dic false _ => ("list" : String) == "dict" | _ => false) = true
  rw [h]; rfl
/-- a list against [] -/
theorem toD_list {ds : List PyData} (h : S.at_ n = .lst xs) (hd : toDWs (lkN S 5) xs = some ds) : toD S (.ref n) = some (.list ds) := by
  show (match S.at_ n with | .lst xs => (toDWs (lkN S 5) xs).map PyData.list | .ro xs => (toDWs (lkN S 5) xs).map PyData.list | _ => none) = _
  rw [h]; simp only; rw [hd]; rfl
end
/-! ### isinstance of the built-in classes -/
def isTup : Vl → Bool
  | .tup _ => true
  | _ => false
def isStr : Vl → Bool
  | .str _ => true
  | _ => false
def isIntV : Vl → Bool
  | .int _ => true
  | .bl _ => true
  | _ => false
def isLst (S : Sto) : Vl → Bool
  | .ref n => (match S.at_ n with | .lst _ => true | .ro _ => true | _ => false)
  | _ => false
section
variable {S : Sto} {Z : Vl → Sto → Prop} {v : Vl} {t : String}
theorem ty_refs {n : Nat} (h : tyN S (.ref n) = some t) : (t = "list" ∧ isLst S (.ref n) = true) ∨ (t = "dict" ∧ isLst S (.ref n) = false) := by
  have h : (match S.at_ n with | .lst _ => some "list" | .ro _ => some "list" | .dic _ _ => some "dict" | _ => none) = some t := h
  have g : isLst S (.ref n) = (match S.at_ n with | .lst _ => true | .ro _ => true | _ => false) := rfl
  rw [g]
  cases e : S.at_ n with
  | lst _ => rw [e] at h; cases h; exact .inl ⟨rfl, rfl⟩
  | ro _ => rw [e] at h; cases h; exact .inl ⟨rfl, rfl⟩
  | dic _ _ => rw [e] at h; cases h; exact .inr ⟨rfl, rfl⟩
  | non => rw [e] at h; cases h
  | ins _ _ => rw [e] at h; cases h
theorem o_isTup (h : tyN S v = some t) : wpo (bIsi [v, .ty "tuple"] S) Z = Z (.bl (isTup v)) S := by
  rw [o_isi h (b := "tuple")]
  have e : isT t "tuple" = isTup v := by
    cases v with
    | ref n =>
      show isT t "tuple" = false
      rcases ty_refs h with ⟨rfl, _⟩ | ⟨rfl, _⟩ <;> decide
    | gl _ => cases h
    | ty _ => cases h
    | exc _ _ _ => cases h
    | _ => cases h; first | decide | rfl
  rw [e]
theorem o_isStr (h : tyN S v = some t) : wpo (bIsi [v, .ty "str"] S) Z = Z (.bl (isStr v)) S := by
  rw [o_isi h (b := "str")]
  have e : isT t "str" = isStr v := by
    cases v with
    | ref n =>
      show isT t "str" = false
      rcases ty_refs h with ⟨rfl, _⟩ | ⟨rfl, _⟩ <;> decide
    | gl _ => cases h
    | ty _ => cases h
    | exc _ _ _ => cases h
    | _ => cases h; first | decide | rfl
  rw [e]
theorem o_isInt (h : tyN S v = some t) : wpo (bIsi [v, .ty "int"] S) Z = Z (.bl (isIntV v)) S := by
  rw [o_isi h (b := "int")]
  have e : isT t "int" = isIntV v := by
    cases v with
    | ref n =>
      show isT t "int" = false
      rcases ty_refs h with ⟨rfl, _⟩ | ⟨rfl, _⟩ <;> decide
    | gl _ => cases h
    | ty _ => cases h
    | exc _ _ _ => cases h
    | _ => cases h; first | decide | rfl
  rw [e]
theorem o_isLst (h : tyN S v = some t) : wpo (bIsi [v, .ty "list"] S) Z = Z (.bl (isLst S v)) S := by
  rw [o_isi h (b := "list")]
  have e : isT t "list" = isLst S v := by
    cases v with
    | ref n => rcases ty_refs h with ⟨rfl, e⟩ | ⟨rfl, e⟩ <;> rw [e] <;> decide
    | gl _ => cases h
    | ty _ => cases h
    | exc _ _ _ => cases h
    | _ => cases h; first | decide | rfl
  rw [e]
end
end Q

set_option linter.all false
set_option maxRecDepth 100000
set_option maxHeartbeats 400000
namespace Q
open PySem PySem.Spec PyProof.Rows L2

/-! ### data: lists of the store from lo on, read k deep -/
mutual
inductive Dat (lo : Nat) (S : Sto) : Nat → Vl → PyData → Prop
  | non {k : Nat} : Dat lo S k .non .none
  | bl {k : Nat} (b : Bool) : Dat lo S k (.bl b) (.bool b)
  | int {k : Nat} (i : Int) : Dat lo S k (.int i) (.int i)
  | str {k : Nat} (x : Str) : x.cps.all (· < 0x110000) = true → Dat lo S k (.str x) (.str x)
  | tup {k : Nat} {xs : List Vl} {ds : List PyData} : DatAll lo S k xs ds → Dat lo S k (.tup xs) (.tuple ds)
  | lst {k n : Nat} {xs : List Vl} {ds : List PyData} : lo ≤ n → n < S.n → S.at_ n = .lst xs → DatAll lo S k xs ds → Dat lo S (k + 1) (.ref n) (.list ds)
inductive DatAll (lo : Nat) (S : Sto) : Nat → List Vl → List PyData → Prop
  | nil {k : Nat} : DatAll lo S k [] []
  | cons {k : Nat} {x : Vl} {d : PyData} {xs : List Vl} {ds : List PyData} : Dat lo S k x d → DatAll lo S k xs ds → DatAll lo S k (x :: xs) (d :: ds)
end
/-- the store grows; from lo on it stays -/
structure Gr (lo : Nat) (S S' : Sto) : Prop where
  n : S.n ≤ S'.n
  at_ : ∀ i, lo ≤ i → i < S.n → S'.at_ i = S.at_ i
section
variable {lo : Nat} {S S' S2 : Sto}
theorem Gr.refl : Gr lo S S := ⟨Nat.le_refl _, fun _ _ _ => rfl⟩
theorem Gr.trans (a : Gr lo S S') (b : Gr lo S' S2) : Gr lo S S2 := ⟨Nat.le_trans a.n b.n, fun i h1 h2 => (b.at_ i h1 (Nat.lt_of_lt_of_le h2 a.n)).trans (a.at_ i h1 h2)⟩
theorem Gr.push {o : Ob} : Gr lo S (S.push o) := ⟨Nat.le_succ _, fun i _ h => push_lt h⟩
theorem Gr.set_new {S0 : Sto} {k : Nat} {o : Ob} (g : Gr lo S0 S) (h : S0.n ≤ k) : Gr lo S0 (S.set k o) := ⟨g.n, fun i h1 h2 => by rw [set_ne (by omega)]; exact g.at_ i h1 h2⟩
theorem Gr.set_low {S0 : Sto} {k : Nat} {o : Ob} (g : Gr lo S0 S) (h : k < lo) : Gr lo S0 (S.set k o) := ⟨g.n, fun i h1 h2 => by rw [set_ne (by omega)]; exact g.at_ i h1 h2⟩
theorem Gr.up {hi : Nat} (g : Gr lo S S') (h : lo ≤ hi) : Gr hi S S' := ⟨g.n, fun i h1 h2 => g.at_ i (Nat.le_trans h h1) h2⟩
mutual
theorem Dat.gr (g : Gr lo S S') : ∀ {k : Nat} {v : Vl} {d : PyData}, Dat lo S k v d → Dat lo S' k v d
  | _, _, _, .non => .non
  | _, _, _, .bl b => .bl b
  | _, _, _, .int b => .int b
  | _, _, _, .str b h => .str b h
  | _, _, _, .tup h => .tup (DatAll.gr g h)
  | _, _, _, .lst h1 h2 h3 h4 => .lst h1 (Nat.lt_of_lt_of_le h2 g.n) ((g.at_ _ h1 h2).trans h3) (DatAll.gr g h4)
theorem DatAll.gr (g : Gr lo S S') : ∀ {k : Nat} {v : List Vl} {d : List PyData}, DatAll lo S k v d → DatAll lo S' k v d
  | _, _, _, .nil => .nil
  | _, _, _, .cons h t => .cons (Dat.gr g h) (DatAll.gr g t)
end
mutual
theorem Dat.toDW : ∀ {k : Nat} {v : Vl} {d : PyData}, Dat lo S k v d → Q.toDW (lkN S k) v = some d
  | _, _, _, .non => rfl
  | _, _, _, .bl b => rfl
  | _, _, _, .int b => rfl
  | _, _, _, .str b _ => rfl
  | _, _, _, .tup h => by unfold Q.toDW; rw [DatAll.toDWs h]; rfl
  | k + 1, _, _, .lst (n := n) h1 h2 h3 h4 => by
    show lkN S (k + 1) n = _
    unfold lkN
    rw [h3]; simp only; rw [DatAll.toDWs h4]; rfl
theorem DatAll.toDWs : ∀ {k : Nat} {v : List Vl} {d : List PyData}, DatAll lo S k v d → Q.toDWs (lkN S k) v = some d
  | _, _, _, .nil => rfl
  | _, _, _, .cons h t => by unfold Q.toDWs; rw [Dat.toDW h, DatAll.toDWs t]
end
mutual
theorem Dat.lay : ∀ {k : Nat} {v : Vl} {d : PyData}, Dat lo S k v d → d.canLay0 = true
  | _, _, _, .non => rfl
  | _, _, _, .bl b => rfl
  | _, _, _, .int b => rfl
  | _, _, _, .str b h => h
  | _, _, _, .tup h => by show PyData.canLayAll0 _ = true; exact DatAll.lay h
  | _, _, _, .lst _ _ _ h => by show PyData.canLayAll0 _ = true; exact DatAll.lay h
theorem DatAll.lay : ∀ {k : Nat} {v : List Vl} {d : List PyData}, DatAll lo S k v d → PyData.canLayAll0 d = true
  | _, _, _, .nil => rfl
  | _, _, _, .cons h t => by show (PyData.canLay0 _ && PyData.canLayAll0 _) = true; rw [Dat.lay h, DatAll.lay t]; rfl
end
mutual
/-- deeper reading says the same -/
theorem Dat.deeper : ∀ {k : Nat} {v : Vl} {d : PyData} (m : Nat), Dat lo S k v d → k ≤ m → Dat lo S m v d
  | _, _, _, _, .non, _ => .non
  | _, _, _, _, .bl b, _ => .bl b
  | _, _, _, _, .int b, _ => .int b
  | _, _, _, _, .str b h, _ => .str b h
  | _, _, _, m, .tup h, hm => .tup (DatAll.deeper m h hm)
  | k + 1, _, _, 0, .lst _ _ _ _, hm => absurd hm (by omega)
  | k + 1, _, _, m + 1, .lst h1 h2 h3 h4, hm => .lst h1 h2 h3 (DatAll.deeper m h4 (by omega))
theorem DatAll.deeper : ∀ {k : Nat} {v : List Vl} {d : List PyData} (m : Nat), DatAll lo S k v d → k ≤ m → DatAll lo S m v d
  | _, _, _, _, .nil, _ => .nil
  | _, _, _, m, .cons h t, hm => .cons (Dat.deeper m h hm) (DatAll.deeper m t hm)
end
theorem Dat.ty {k : Nat} {v : Vl} {d : PyData} (h : Dat lo S k v d) : ∃ t, tyN S v = some t := by
  cases h with
  | lst h1 h2 h3 h4 => exact ⟨"list", by show (match S.at_ _ with | .lst _ => some "list" | .ro _ => some "list" | .dic _ _ => some "dict" | _ => none) = _; rw [h3]⟩
  | _ => exact ⟨_, rfl⟩
theorem DatAll.mem {k : Nat} : ∀ {xs : List Vl} {ds : List PyData}, DatAll lo S k xs ds → ∀ x ∈ xs, ∃ d, Dat lo S k x d
  | _, _, .nil, x, hx => by cases hx
  | _, _, .cons h t, x, hx => by
    rcases List.mem_cons.mp hx with e | e
    · subst e; exact ⟨_, h⟩
    · exact t.mem x e
theorem datAll_of {k : Nat} : ∀ {xs : List Vl}, (∀ x ∈ xs, ∃ d, Dat lo S k x d) → ∃ ds, DatAll lo S k xs ds
  | [], _ => ⟨[], .nil⟩
  | x :: xs, h => by
    obtain ⟨d, hd⟩ := h x List.mem_cons_self
    obtain ⟨ds, hs⟩ := datAll_of fun y hy => h y (List.mem_cons_of_mem _ hy)
    exact ⟨d :: ds, .cons hd hs⟩
theorem DatAll.append {k : Nat} : ∀ {xs ys : List Vl} {ds es : List PyData}, DatAll lo S k xs ds → DatAll lo S k ys es → DatAll lo S k (xs ++ ys) (ds ++ es)
  | _, _, _, _, .nil, h => h
  | _, _, _, _, .cons h t, k => .cons h (t.append k)
theorem DatAll.length {k : Nat} : ∀ {xs : List Vl} {ds : List PyData}, DatAll lo S k xs ds → ds.length = xs.length
  | _, _, .nil => rfl
  | _, _, .cons _ t => by simp [t.length]
/-- a list against a list that is empty -/
theorem o_neNil {n m : Nat} {xs : List Vl} {Z : Vl → Sto → Prop} (h1 : S.at_ n = .lst xs) (hx : ∀ x ∈ xs, ∃ d, Dat lo S 5 x d) (h2 : S.at_ m = .lst []) : wpo (bNe (.ref n) (.ref m) S) Z = Z (.bl (!xs.isEmpty)) S := by
  obtain ⟨ds, hd⟩ := datAll_of hx
  rw [o_ned (d := .list ds) (e := .list []) (toD_list h1 hd.toDWs) (toD_list h2 rfl) (fun ⟨x, y, e, _⟩ => by cases e) (show PyData.canLayAll0 ds = true from hd.lay) rfl (Nat.le_trans (Nat.min_le_right _ _) (by decide))]
  cases hd with
  | nil => rfl
  | cons _ _ => rfl
theorem o_eqNil {n m : Nat} {xs : List Vl} {Z : Vl → Sto → Prop} (h1 : S.at_ n = .lst xs) (hx : ∀ x ∈ xs, ∃ d, Dat lo S 5 x d) (h2 : S.at_ m = .lst []) : wpo (bEq (.ref n) (.ref m) S) Z = Z (.bl xs.isEmpty) S := by
  obtain ⟨ds, hd⟩ := datAll_of hx
  rw [o_eqd (d := .list ds) (e := .list []) (toD_list h1 hd.toDWs) (toD_list h2 rfl) (fun ⟨x, y, e, _⟩ => by cases e) (show PyData.canLayAll0 ds = true from hd.lay) rfl (Nat.le_trans (Nat.min_le_right _ _) (by decide))]
  cases hd with
  | nil => rfl
  | cons _ _ => rfl
end
end Q

set_option linter.all false
set_option maxRecDepth 100000
set_option maxHeartbeats 400000
namespace Q
open PySem PySem.Spec PyProof.Rows L2

/-! ### what is wanted of a comprehension, of the functions on lists -/
theorem lcN_mono {nx : Nxt} {t : Tg} {c : En → M Bool} {f : En → M Vl} {D : Nat} {ρ : En} : ∀ {n i : Nat} {S : Sto} {r : Sto}, lcN nx t c f D ρ n i S = some r → ∀ m, n ≤ m → lcN nx t c f D ρ m i S = some r
  | 0, _, _, _, h, _, _ => by cases h
  | n + 1, i, S, r, h, 0, hm => by omega
  | n + 1, i, S, r, h, m + 1, hm => by
    unfold lcN at h ⊢
    cases e : nx i S with
    | none => rw [e] at h; cases h
    | some o =>
      rw [e] at h
      cases o with
      | none => exact h
      | some v =>
        simp only at h ⊢
        cases e1 : t.run v ρ with
        | none => rw [e1] at h; cases h
        | some ρ1 =>
          rw [e1] at h
          simp only at h ⊢
          cases e2 : c ρ1 S with
          | none => rw [e2] at h; cases h
          | some p =>
            obtain ⟨q, S1⟩ := p
            rw [e2] at h
            cases q with
            | exc _ _ _ => cases h
            | ok b =>
              cases b with
              | false => exact lcN_mono (n := n) h m (by omega)
              | true =>
                simp only at h ⊢
                cases e3 : f ρ1 S1 with
                | none => rw [e3] at h; cases h
                | some p3 =>
                  obtain ⟨q3, S2⟩ := p3
                  rw [e3] at h
                  cases q3 with
                  | exc _ _ _ => cases h
                  | ok y =>
                    simp only at h ⊢
                    cases e4 : S2.at_ D with
                    | lst acc =>
                      rw [e4] at h
                      simp only at h ⊢
                      by_cases hz : acc.length < sizeLine
                      · rw [if_pos hz] at h ⊢; exact lcN_mono (n := n) h m (by omega)
                      · rw [if_neg hz] at h; cases h
                    | _ => rw [e4] at h; cases h
theorem w_lcN {nx : Nxt} {t : Tg} {c : En → M Bool} {f : En → M Vl} {D : Nat} {ρ : En} {Z : Sto → Prop} (xs : List Vl) (J : Nat → List Vl → Sto → Prop) (hn : ∀ i acc S, i ≤ xs.length → J i acc S → nx i S = some xs[i]?)
    (step : ∀ i x acc S, xs[i]? = some x → J i acc S → ∃ ρ1, t.run x ρ = some ρ1 ∧ wpe (c ρ1 S) noE fun b S2 => if b = true then wpe (f ρ1 S2) noE fun y S3 => S3.at_ D = .lst acc ∧ acc.length < sizeLine ∧ J (i + 1) (acc ++ [y]) (S3.set D (.lst (acc ++ [y]))) else J (i + 1) acc S2)
    (done : ∀ acc S, J xs.length acc S → Z S) : ∀ (k i : Nat) {acc : List Vl} {S : Sto}, i + k = xs.length → J i acc S → ∃ S', lcN nx t c f D ρ (k + 1) i S = some S' ∧ Z S'
  | 0, i, acc, S, hi, h => by
    unfold lcN
    rw [hn i acc S (by omega) h, List.getElem?_eq_none (by omega)]
    have e : i = xs.length := by omega
    rw [e] at h
    exact ⟨S, rfl, done acc S h⟩
  | k + 1, i, acc, S, hi, h => by
    unfold lcN
    have hx : xs[i]? = some xs[i] := List.getElem?_eq_getElem (by omega)
    obtain ⟨ρ1, h1, q⟩ := step i _ acc S hx h
    rw [hn i acc S (by omega) h, hx]
    simp only
    rw [h1]
    simp only
    cases e2 : c ρ1 S with
    | none => rw [e2] at q; exact q.elim
    | some p =>
      obtain ⟨r, S1⟩ := p
      rw [e2] at q
      cases r with
      | exc _ _ _ => exact q.elim
      | ok b =>
        cases b with
        | false => exact w_lcN xs J hn step done k (i + 1) (by omega) (show J (i + 1) acc S1 from q)
        | true =>
          have q : wpe (f ρ1 S1) _ _ := q
          simp only
          cases e3 : f ρ1 S1 with
          | none => rw [e3] at q; exact q.elim
          | some p3 =>
            obtain ⟨r3, S2⟩ := p3
            rw [e3] at q
            cases r3 with
            | exc _ _ _ => exact q.elim
            | ok y =>
              obtain ⟨q1, q2, q3⟩ := (show S2.at_ D = .lst acc ∧ acc.length < sizeLine ∧ J (i + 1) (acc ++ [y]) (S2.set D (.lst (acc ++ [y]))) from q)
              simp only
              rw [q1]
              simp only
              rw [if_pos q2]
              exact w_lcN xs J hn step done k (i + 1) (by omega) q3
theorem w_lc {fi : En → M Nxt} {t : Tg} {c : En → M Bool} {f : En → M Vl} {vs : List Nat} {ρ : En} {S : Sto} {E : XP} {Z : Vl → Sto → Prop}
    (h : wpe (fi ρ S) E fun nx S1 => ∃ (xs : List Vl) (J : Nat → List Vl → Sto → Prop), J 0 [] (S1.push (.lst [])) ∧ (∀ i acc S, i ≤ xs.length → J i acc S → nx i S = some xs[i]?) ∧
      (∀ i x acc S, xs[i]? = some x → J i acc S → ∃ ρ1, t.run x (wipeE ρ vs) = some ρ1 ∧ wpe (c ρ1 S) noE fun b S2 => if b = true then wpe (f ρ1 S2) noE fun y S3 => S3.at_ S1.n = .lst acc ∧ acc.length < sizeLine ∧ J (i + 1) (acc ++ [y]) (S3.set S1.n (.lst (acc ++ [y]))) else J (i + 1) acc S2) ∧
      ∀ acc S, J xs.length acc S → Z (.ref S1.n) S) : wpe (mLc fi t c f vs ρ S) E Z := by
  unfold mLc
  cases e : fi ρ S with
  | none => rw [e] at h; exact h.elim
  | some p =>
    obtain ⟨r, S1⟩ := p
    rw [e] at h
    cases r with
    | exc c g v => exact h
    | ok nx =>
      obtain ⟨xs, J, h0, hn, step, done⟩ := h
      obtain ⟨S', e1, hz⟩ := w_lcN (Z := fun S' => Z (.ref S1.n) S') xs J hn step (fun acc S q => done acc S q) xs.length 0 (by omega) h0
      have e2 : lim (fun n => lcN nx t c f S1.n (wipeE ρ vs) n 0 (S1.push (.lst []))) = some S' := lim_is e1 (det_of_mono fun n r e m hm => lcN_mono e m hm)
      simp only
      rw [e2]
      exact hz
section
variable {S : Sto} {n : Nat} {xs : List Vl} {ns : List Int} {bs : List Bool} {Z : Vl → Sto → Prop}
theorem getR_l (h : S.at_ n = .lst xs) : getR S n = some xs := by unfold getR; rw [h]
theorem getR_r (h : S.at_ n = .ro xs) : getR S n = some xs := by unfold getR; rw [h]
theorem asInts_map : ∀ ns : List Int, asInts (ns.map Vl.int) = some ns
  | [] => rfl
  | n :: ns => by show (asInts (ns.map Vl.int)).map (n :: ·) = _; rw [asInts_map ns]; rfl
theorem asBls_map : ∀ ns : List Bool, asBls (ns.map Vl.bl) = some ns
  | [] => rfl
  | n :: ns => by show (asBls (ns.map Vl.bl)).map (n :: ·) = _; rw [asBls_map ns]; rfl
theorem o_tuple (h : getR S n = some xs) : wpo (bTuple [.ref n] S) Z = Z (.tup xs) S := by
  show wpo (match getR S n with | some xs => some (.tup xs, S) | none => none) Z = _
  rw [h]; rfl
theorem o_list (h : getR S n = some xs) : wpo (bList [.ref n] S) Z = Z (.ref S.n) (S.push (.lst xs)) := by
  show wpo (match getR S n with | some xs => some (.ref S.n, S.push (.lst xs)) | none => none) Z = _
  rw [h]; rfl
theorem o_listt : wpo (bList [.tup xs] S) Z = Z (.ref S.n) (S.push (.lst xs)) := rfl
theorem o_sum (h : getR S n = some (ns.map Vl.int)) : wpo (bSum [.ref n] S) Z = Z (.int ns.sum) S := by
  show wpo (match (getR S n).bind asInts with | some ns => some (.int ns.sum, S) | none => none) Z = _
  rw [h, Option.bind_some, asInts_map]; rfl
theorem o_all (h : getR S n = some (bs.map Vl.bl)) : wpo (bAll [.ref n] S) Z = Z (.bl (bs.all id)) S := by
  show wpo (match (getR S n).bind asBls with | some bs => some (.bl (bs.all id), S) | none => none) Z = _
  rw [h, Option.bind_some, asBls_map]; rfl
theorem o_max {i : Int} (h : getR S n = some ((i :: ns).map Vl.int)) : wpo (bMax [.ref n] S) Z = Z (.int (maxI (i :: ns))) S := by
  show wpo (match (getR S n).bind asInts with | some (x :: r) => some (.int (maxI (x :: r)), S) | _ => none) Z = _
  rw [h, Option.bind_some, asInts_map]; rfl
/-- iteration -/
theorem w_it {f : En → M Vl} {ρ : En} {E : XP} {Z : Nxt → Sto → Prop} : wpe (mIt f ρ S) E Z = wpe (f ρ S) E fun v S1 => (∃ xs, v = .tup xs ∧ Z (nxT xs) S1) ∨ (∃ n xs, v = .ref n ∧ getR S1 n = some xs ∧ Z (nxL n) S1) ∨ ∃ z, v = .str z ∧ Z (nxS z) S1 := by
  unfold mIt
  rw [w_bnd]
  congr 1; funext v S1; apply propext
  cases v with
  | tup xs => exact ⟨fun q => .inl ⟨xs, rfl, q⟩, fun q => by
      rcases q with ⟨_, e, q⟩ | ⟨_, _, e, _⟩ | ⟨_, e, _⟩
      · cases e; exact q
      · cases e
      · cases e⟩
  | str z => exact ⟨fun q => .inr (.inr ⟨z, rfl, q⟩), fun q => by
      rcases q with ⟨_, e, q⟩ | ⟨_, _, e, _⟩ | ⟨_, e, q⟩
      · cases e
      · cases e
      · cases e; exact q⟩
  | ref n =>
    show wpe (match getR S1 n with | some _ => some (.ok (nxL n), S1) | none => none) E Z ↔ _
    cases e : getR S1 n with
    | none => exact ⟨fun q => q.elim, fun q => by
        rcases q with ⟨_, e, q⟩ | ⟨_, _, e1, e2, _⟩ | ⟨_, e, _⟩
        · cases e
        · cases e1; rw [e] at e2; cases e2
        · cases e⟩
    | some xs => exact ⟨fun q => .inr (.inl ⟨n, xs, rfl, e, q⟩), fun q => by
        rcases q with ⟨_, e, q⟩ | ⟨_, _, e1, e2, q⟩ | ⟨_, e, _⟩
        · cases e
        · cases e1; exact q
        · cases e⟩
  | _ => exact ⟨fun q => q.elim, fun q => by
      rcases q with ⟨_, e, q⟩ | ⟨_, _, e, _⟩ | ⟨_, e, _⟩ <;> cases e⟩
theorem nxL_at {i : Nat} (h : getR S n = some xs) : nxL n i S = some xs[i]? := by
  unfold nxL; rw [h]; simp only
  cases xs[i]? <;> rfl
end

theorem w_true {ρ : En} {S : Sto} {E : XP} {Z : Bool → Sto → Prop} : wpe (mTrue ρ S) E Z = Z true S := rfl
theorem take_snoc {α : Type} {l : List α} {i : Nat} {x : α} (h : l[i]? = some x) : l.take (i + 1) = l.take i ++ [x] := by
  rw [List.take_add_one, h]; rfl
/-- [f(x) for x in xs], nothing that stands is changed -/
theorem w_lcmap {fi : En → M Nxt} {t : Tg} {c : En → M Bool} {f : En → M Vl} {vs : List Nat} {ρ : En} {S : Sto} {E : XP} {Z : Vl → Sto → Prop}
    (h : wpe (fi ρ S) E fun nx S1 => ∃ xs ys : List Vl, ys.length = xs.length ∧ xs.length ≤ 1000000 ∧ (∀ (i : Nat) (S2 : Sto), i ≤ xs.length → Gr 0 S1 S2 → nx i S2 = some xs[i]?) ∧
      (∀ (i : Nat) (x y : Vl) (S2 : Sto), xs[i]? = some x → ys[i]? = some y → Gr 0 S1 S2 → ∃ ρ1, t.run x (wipeE ρ vs) = some ρ1 ∧ wpe (c ρ1 S2) noE fun b S3 => b = true ∧ Gr 0 S2 S3 ∧ wpe (f ρ1 S3) noE fun y' S4 => y' = y ∧ Gr 0 S3 S4) ∧
      ∀ S2, Gr 0 S1 S2 → S1.n < S2.n → S2.at_ S1.n = .lst ys → Z (.ref S1.n) S2) : wpe (mLc fi t c f vs ρ S) E Z := by
  refine w_lc (wpe_mono h (fun nx S1 q => ?_) fun _ _ _ _ z => z)
  obtain ⟨xs, ys, hl, hb, hn, step, done⟩ := q
  refine ⟨xs, fun i acc S2 => acc = ys.take i ∧ S2.at_ S1.n = .lst acc ∧ S1.n < S2.n ∧ Gr 0 S1 S2, ⟨rfl, push_same, Nat.lt_succ_self _, Gr.push⟩, fun i acc S2 hi q => hn i S2 hi q.2.2.2, fun i x acc S2 hx q => ?_, fun acc S2 q => ?_⟩
  · obtain ⟨rfl, q1, q2, q3⟩ := q
    have hlt : i < xs.length := by
      rw [List.getElem?_eq_some_iff] at hx; exact hx.1
    have hy : ys[i]? = some ys[i] := List.getElem?_eq_getElem (by omega)
    obtain ⟨ρ1, h1, h2⟩ := step i x _ S2 hx hy q3
    refine ⟨ρ1, h1, wpe_mono h2 (fun b S3 z => ?_) fun _ _ _ _ z => z⟩
    obtain ⟨rfl, g3, h3⟩ := z
    simp only [if_true]
    refine wpe_mono h3 (fun y' S4 z => ?_) fun _ _ _ _ z => z
    obtain ⟨rfl, g4⟩ := z
    have at4 : S4.at_ S1.n = .lst (ys.take i) := by
      rw [g4.at_ _ (Nat.zero_le _) (Nat.lt_of_lt_of_le q2 g3.n), g3.at_ _ (Nat.zero_le _) q2]; exact q1
    refine ⟨at4, ?_, by rw [take_snoc hy], set_same, Nat.lt_of_lt_of_le q2 (Nat.le_trans g3.n g4.n), ((q3.trans g3).trans g4).set_new (Nat.le_refl _)⟩
    rw [List.length_take, show sizeLine = 16777216 from rfl]; omega
  · obtain ⟨rfl, q1, q2, q3⟩ := q
    rw [← hl, List.take_length] at q1
    exact done S2 q3 q2 q1

section
variable {S : Sto} {n : Nat} {xs : List Vl} {Z : Vl → Sto → Prop} {E : XP} {ρ : En}
theorem w_rev {f : En → M Vl} : wpe (mRev f ρ S) E Z = wpe (f ρ S) E fun v S1 => wpo (bRev v S1) Z := by
  unfold mRev; simp only [w_bnd, w_lift]
theorem w_sl {f : En → M Vl} {fl fh : En → M (Option Int)} : wpe (mSl f fl fh ρ S) E Z = wpe (f ρ S) E fun v S1 => wpe (fl ρ S1) E fun lo S2 => wpe (fh ρ S2) E fun hi S3 => wpo (bSl v lo hi S3) Z := by
  unfold mSl; simp only [w_bnd, w_lift]
theorem w_none' {Z : Option Int → Sto → Prop} : wpe (oNone ρ S) E Z = Z none S := rfl
theorem w_some' {f : En → M Vl} {Z : Option Int → Sto → Prop} : wpe (oSome f ρ S) E Z = wpe (f ρ S) E fun v S1 => ∃ i, v = .int i ∧ Z (some i) S1 := by
  unfold oSome; simp only [w_bnd]
  congr 1; funext v S1; apply propext
  cases v with
  | int i => exact ⟨fun q => ⟨i, rfl, q⟩, fun ⟨j, e, q⟩ => by cases e; exact q⟩
  | _ => exact ⟨fun q => q.elim, fun ⟨j, e, _⟩ => by cases e⟩
theorem w_neg {f : En → M Vl} : wpe (mNeg f ρ S) E Z = wpe (f ρ S) E fun v S1 => ∃ i, v = .int i ∧ Z (.int (-i)) S1 := by
  unfold mNeg; simp only [w_bnd]
  congr 1; funext v S1; apply propext
  cases v with
  | int i => exact ⟨fun q => ⟨i, rfl, q⟩, fun ⟨j, e, q⟩ => by cases e; exact q⟩
  | _ => exact ⟨fun q => q.elim, fun ⟨j, e, _⟩ => by cases e⟩
theorem o_revl (h : getR S n = some xs) : wpo (bRev (.ref n) S) Z = Z (.ref S.n) (S.push (.lst xs.reverse)) := by
  show wpo (match getR S n with | some xs => some (.ref S.n, S.push (.lst xs.reverse)) | none => none) Z = _
  rw [h]; rfl
theorem o_revt : wpo (bRev (.tup xs) S) Z = Z (.tup xs.reverse) S := rfl
theorem o_slt {lo hi : Option Int} : wpo (bSl (.tup xs) lo hi S) Z = Z (.tup (cutL xs lo hi)) S := rfl
theorem o_sll {lo hi : Option Int} (h : getR S n = some xs) : wpo (bSl (.ref n) lo hi S) Z = Z (.ref S.n) (S.push (.lst (cutL xs lo hi))) := by
  show wpo (match getR S n with | some xs => some (.ref S.n, S.push (.lst (cutL xs lo hi))) | none => none) Z = _
  rw [h]; rfl
theorem o_eqUnit {lo : Nat} {d : PyData} (h : Dat lo S 6 (.tup xs) d) : wpo (bEq (.tup xs) (.tup []) S) Z = Z (.bl xs.isEmpty) S := by
  rw [o_eqd (d := d) (e := .tuple []) h.toDW rfl (fun ⟨x, y, e, _⟩ => by cases e) h.lay rfl (Nat.le_trans (Nat.min_le_right _ _) (by decide))]
  cases h with
  | tup h => cases h <;> rfl
theorem o_neUnit {lo : Nat} {d : PyData} (h : Dat lo S 6 (.tup xs) d) : wpo (bNe (.tup xs) (.tup []) S) Z = Z (.bl (!xs.isEmpty)) S := by
  rw [o_ned (d := d) (e := .tuple []) h.toDW rfl (fun ⟨x, y, e, _⟩ => by cases e) h.lay rfl (Nat.le_trans (Nat.min_le_right _ _) (by decide))]
  cases h with
  | tup h => cases h <;> rfl
theorem o_isnon {v : Vl} : wpo (bIs false v .non S) Z = Z (.bl (isNon v)) S := rfl
theorem o_notnon {v : Vl} : wpo (bIs true v .non S) Z = Z (.bl (!isNon v)) S := rfl
theorem o_isbl {b c : Bool} : wpo (bIs false (.bl b) (.bl c) S) Z = Z (.bl (decide (b = c))) S := rfl
theorem o_ge {i j : Int} : wpo (bGe (.int i) (.int j) S) Z = Z (.bl (decide (j ≤ i))) S := rfl
theorem o_lt {i j : Int} : wpo (bLt (.int i) (.int j) S) Z = Z (.bl (decide (i < j))) S := rfl
theorem o_le {i j : Int} : wpo (bLe (.int i) (.int j) S) Z = Z (.bl (decide (i ≤ j))) S := rfl
theorem o_gt {i j : Int} : wpo (bGt (.int i) (.int j) S) Z = Z (.bl (decide (j < i))) S := rfl
theorem oi_int {i j : Int} : wpo (iAdd (.int i) (.int j) S) Z = Z (.int (i + j)) S := rfl
end
end Q

set_option linter.all false
set_option maxRecDepth 100000
set_option maxHeartbeats 400000
namespace Q
open PySem PySem.Spec PyProof.Rows L2

/-! ### the draws' state -/
def stD (g c : Nat) (r t : Int) : List (Vl × Vl) := [(.str "great", .ref g), (.str "cells", .ref c), (.str "rest", .int r), (.str "turn", .int t)]
theorem get_great {g c : Nat} {r t : Int} : dGet (stD g c r t) (.str "great") = some (.ref g) := by kernel_rfl
theorem get_cells {g c : Nat} {r t : Int} : dGet (stD g c r t) (.str "cells") = some (.ref c) := by kernel_rfl
theorem get_rest {g c : Nat} {r t : Int} : dGet (stD g c r t) (.str "rest") = some (.int r) := by kernel_rfl
theorem get_turn {g c : Nat} {r t : Int} : dGet (stD g c r t) (.str "turn") = some (.int t) := by kernel_rfl
theorem put_rest {g c : Nat} {r t x : Int} : dPut (stD g c r t) (.str "rest") (.int x) = stD g c x t := by kernel_rfl
theorem put_turn {g c : Nat} {r t x : Int} : dPut (stD g c r t) (.str "turn") (.int x) = stD g c r x := by kernel_rfl
/-- the state at d; its lists at g, c; all below lo; at most T drawn anew -/
structure St (lo d g c T : Nat) (S : Sto) : Prop where
  d_ : ∃ r t : Int, S.at_ d = .dic false (stD g c r t) ∧ 0 ≤ t ∧ t ≤ T
  g_ : ∃ gs : List Int, S.at_ g = .lst (gs.map Vl.int)
  c_ : ∃ cs : List Int, S.at_ c = .lst (cs.map Vl.int)
  dg : d ≠ g
  dc : d ≠ c
  gc : g ≠ c
  dl : d < lo
  gl : g < lo
  cl : c < lo
  ln : lo ≤ S.n
section
variable {lo d g c T T' : Nat} {S S' : Sto}
theorem St.mono (s : St lo d g c T S) (h : T ≤ T') : St lo d g c T' S := by
  obtain ⟨⟨r, t, h1, h2, h3⟩, a, b, e1, e2, e3, e4, e5, e6, e7⟩ := s
  exact ⟨⟨r, t, h1, h2, by omega⟩, a, b, e1, e2, e3, e4, e5, e6, e7⟩
theorem St.gr (s : St lo d g c T S) (h : Gr 0 S S') : St lo d g c T S' := by
  obtain ⟨⟨r, t, h1, h2, h3⟩, ⟨gs, a⟩, ⟨cs, b⟩, e1, e2, e3, e4, e5, e6, e7⟩ := s
  exact ⟨⟨r, t, (h.at_ _ (Nat.zero_le _) (by omega)).trans h1, h2, h3⟩, ⟨gs, (h.at_ _ (Nat.zero_le _) (by omega)).trans a⟩, ⟨cs, (h.at_ _ (Nat.zero_le _) (by omega)).trans b⟩, e1, e2, e3, e4, e5, e6, Nat.le_trans e7 h.n⟩
theorem St.setD (s : St lo d g c T S) {r t : Int} (h1 : 0 ≤ t) (h2 : t ≤ T') : St lo d g c T' (S.set d (.dic false (stD g c r t))) := by
  obtain ⟨_, ⟨gs, a⟩, ⟨cs, b⟩, e1, e2, e3, e4, e5, e6, e7⟩ := s
  exact ⟨⟨r, t, set_same, h1, h2⟩, ⟨gs, (set_ne (Ne.symm e1)).trans a⟩, ⟨cs, (set_ne (Ne.symm e2)).trans b⟩, e1, e2, e3, e4, e5, e6, e7⟩
theorem St.setG (s : St lo d g c T S) {gs : List Int} : St lo d g c T (S.set g (.lst (gs.map Vl.int))) := by
  obtain ⟨⟨r, t, h1, h2, h3⟩, ⟨_, a⟩, ⟨cs, b⟩, e1, e2, e3, e4, e5, e6, e7⟩ := s
  exact ⟨⟨r, t, (set_ne e1).trans h1, h2, h3⟩, ⟨gs, set_same⟩, ⟨cs, (set_ne (Ne.symm e3)).trans b⟩, e1, e2, e3, e4, e5, e6, e7⟩
theorem o_get {k : Str} {r t : Int} {v : Vl} {Z : Vl → Sto → Prop} (h : S.at_ d = .dic false (stD g c r t)) (hv : dGet (stD g c r t) (.str k) = some v) : wpo (bSub' (.ref d) (.str k) S) Z = Z v S := o_key h rfl hv
theorem s_key {f : En → M Vl} {i : Nat} {k : Vl} {ρ : En} {D : End_} : wps (sAsg f (gSb (mSlot i) (mC k)) ρ S) D = wpe (f ρ S) D.ex fun v S1 => ∃ o, ρ[i]? = some (some o) ∧ match bSet o k v S1 with | some S2 => D.nx ρ S2 | none => False := by
  rw [s_asg]
  congr 1; funext v S1; apply propext
  unfold gSb
  cases e : ρ[i]? with
  | none =>
    have e1 : mSlot i ρ S1 = none := by unfold mSlot; rw [e]; rfl
    rw [e1]
    exact ⟨fun q => q.elim, fun ⟨o, e2, _⟩ => by cases e2⟩
  | some x =>
    cases x with
    | none =>
      have e1 : mSlot i ρ S1 = none := by unfold mSlot; rw [e]; rfl
      rw [e1]
      exact ⟨fun q => q.elim, fun ⟨o, e2, _⟩ => by cases e2⟩
    | some o =>
      have e1 : mSlot i ρ S1 = some (.ok o, S1) := by unfold mSlot; rw [e]; rfl
      rw [e1]
      show wpo (match bSet o k v S1 with | some S3 => some (ρ, S3) | none => none) D.nx ↔ _
      cases e2 : bSet o k v S1 with
      | none => exact ⟨fun q => q.elim, fun ⟨o', e3, q⟩ => by cases e3; rw [e2] at q; exact q⟩
      | some S2 => exact ⟨fun q => ⟨o, rfl, by rw [e2]; exact q⟩, fun ⟨o', e3, q⟩ => by cases e3; rw [e2] at q; exact q⟩
theorem set_key {k : Str} {v : Vl} {r t : Int} (h : S.at_ d = .dic false (stD g c r t)) : bSet (.ref d) (.str k) v S = some (S.set d (.dic false (dPut (stD g c r t) (.str k) v))) := by
  show (match S.at_ d with
    | .lst xs => _
    | .dic false kvs => (match keyOf (.str k) with
      | some _ => if kvs.length < sizeLine then some (S.set d (.dic false (dPut kvs (.str k) v))) else none
      | none => none)
    | _ => none) = _
  rw [h]
  rfl
theorem o_pop0 {n : Nat} {x : Vl} {xs : List Vl} {Z : Vl → Sto → Prop} (h : S.at_ n = .lst (x :: xs)) : wpo (mtPopAt (.ref n) [.int 0] S) Z = Z x (S.set n (.lst xs)) := by
  show wpo (match S.at_ n with
    | .lst xs => if -(2 ^ 63) ≤ (0 : Int) ∧ (0 : Int) < 2 ^ 63 then (match seqIndex? 0 xs.length with
      | some k => (match xs[k]? with | some v => some (v, S.set n (.lst (xs.eraseIdx k))) | none => none)
      | none => none) else none
    | _ => none) Z = _
  rw [h]
  have e : seqIndex? 0 (x :: xs).length = some 0 := by
    unfold seqIndex?
    simp
  simp only [e]
  rw [if_pos (by decide)]
  rfl
theorem dat_ints {k lo : Nat} {ns : List Int} : ∀ x ∈ ns.map Vl.int, ∃ d, Dat lo S k x d := fun x hx => by
  obtain ⟨i, _, rfl⟩ := List.mem_map.mp hx
  exact ⟨_, .int i⟩
end

theorem atI_at {α : Type} {xs : List α} {k : Nat} {v : α} (h : xs[k]? = some v) (hk : k < 2 ^ 62) : atI xs (k : Int) = some v := by
  have hl : k < xs.length := by rw [List.getElem?_eq_some_iff] at h; exact h.1
  unfold atI
  have e2 : seqIndex? (k : Int) xs.length = some k := by
    unfold seqIndex?
    have h1 : ¬ ((k : Int) < 0) := by omega
    simp only [h1, if_false]
    have h2 : (decide ((0 : Int) ≤ k) && decide ((k : Int) < xs.length)) = true := by simp; omega
    rw [if_pos h2]; simp
  have hb : -(2 ^ 63) ≤ (k : Int) ∧ (k : Int) < 2 ^ 63 := by constructor <;> omega
  have h9 : xs[k] = v := by rw [List.getElem?_eq_getElem hl] at h; exact Option.some.inj h
  simp [ixN, hb, e2, hl, h9]
theorem o_atl {S : Sto} {n k : Nat} {xs : List Vl} {v : Vl} {Z : Vl → Sto → Prop} (hr : getR S n = some xs) (h : xs[k]? = some v) (hk : k < 2 ^ 62) (hd : getD S n = none) : wpo (bSub' (.ref n) (.int k) S) Z = Z v S := by
  show wpo (match getD S n with
    | some kvs => (match keyOf (.int k) with
      | some _ => (match dGet kvs (.int k) with | some v => some (v, S) | none => none)
      | none => none)
    | none => bIdx (.ref n) (.int k) S) Z = _
  rw [hd]
  show wpo (match getR S n with
      | some xs => match atI xs (k : Int) with
        | some v => some (v, S)
        | none => none
      | none => none) Z = _
  rw [hr]; simp only; rw [atI_at h hk]; rfl

theorem w_itR1 {g : En → M (List Vl)} {ρ : En} {S : Sto} {E : XP} {Z : Nxt → Sto → Prop} : wpe (mItR1 g ρ S) E Z = wpe (g ρ S) E fun vs S1 => ∃ j, vs = [.int j] ∧ -(2 ^ 62) ≤ j ∧ j < 2 ^ 62 ∧ Z (nxR 0 j.toNat) S1 := by
  unfold mItR1
  rw [w_bnd]
  congr 1; funext vs S1; apply propext
  cases e : asI1 vs with
  | none =>
    refine ⟨fun q => q.elim, fun ⟨j, e2, _⟩ => ?_⟩
    rw [e2] at e; cases e
  | some j =>
    have ev := asI1_eq e
    subst ev
    by_cases h : -(2 ^ 62) ≤ j ∧ j < 2 ^ 62
    · simp only [if_pos h]; exact ⟨fun q => ⟨j, rfl, h.1, h.2, q⟩, fun ⟨k, e3, _, _, q⟩ => by cases e3; exact q⟩
    · simp only [if_neg h]; exact ⟨fun q => q.elim, fun ⟨k, e3, h1, h2, q⟩ => by cases e3; exact (h ⟨h1, h2⟩).elim⟩
def rng (n : Nat) : List Vl := (List.range n).map fun i : Nat => Vl.int (i : Int)
theorem rng_len {n : Nat} : (rng n).length = n := by unfold rng; rw [List.length_map, List.length_range]
theorem rng_at {n i : Nat} {S : Sto} : nxR 0 n i S = some (rng n)[i]? := by
  unfold nxR rng
  by_cases h : i < n
  · rw [if_pos h, List.getElem?_map, List.getElem?_range h]; simp
  · rw [if_neg h, List.getElem?_eq_none (by simpa using h)]
theorem rng_get {n i : Nat} {x : Vl} (h : (rng n)[i]? = some x) : x = .int (i : Int) ∧ i < n := by
  unfold rng at h
  rw [List.getElem?_map] at h
  by_cases hl : i < n
  · rw [List.getElem?_range hl] at h; cases h; exact ⟨rfl, hl⟩
  · rw [List.getElem?_eq_none (by simpa using hl)] at h; cases h

theorem w_pairs0 {ρ : En} {S : Sto} {E : XP} {Z : List (Vl × Vl) → Sto → Prop} : wpe (mPairs [] ρ S) E Z = Z [] S := rfl
theorem w_pairs {fk fv : En → M Vl} {r : List ((En → M Vl) × (En → M Vl))} {ρ : En} {S : Sto} {E : XP} {Z : List (Vl × Vl) → Sto → Prop} :
    wpe (mPairs ((fk, fv) :: r) ρ S) E Z = wpe (fk ρ S) E fun k S1 => wpe (fv ρ S1) E fun v S2 => wpe (mPairs r ρ S2) E fun ps S3 => Z ((k, v) :: ps) S3 := by
  show wpe (bnd (fk ρ) (fun k => bnd (fv ρ) fun v => bnd (mPairs r ρ) fun ps => ret ((k, v) :: ps)) S) E Z = _
  simp only [w_bnd, w_ret]
theorem w_disp {ms : List ((En → M Vl) × (En → M Vl))} {ρ : En} {S : Sto} {E : XP} {Z : Vl → Sto → Prop}
    (h : wpe (mPairs ms ρ (S.push (.dic false []))) E fun ps S2 => S2.at_ S.n = .dic false [] ∧ ps.length ≤ 15 ∧ (ps.all fun p => (keyOf p.1).isSome) = true ∧ Z (.ref S.n) (S2.set S.n (.dic false (mergeD [] ps)))) : wpe (mDisp ms ρ S) E Z := by
  unfold mDisp
  rw [w_bnd]
  refine wpe_mono h (fun ps S2 q => ?_) (fun _ _ _ _ z => z)
  obtain ⟨q1, q2, q3, q4⟩ := q
  rw [w_lift]
  show wpo (match S2.at_ S.n with
    | .dic false [] => if ps.length ≤ 15 ∧ (ps.all fun p => (keyOf p.1).isSome) = true then some (.ref S.n, S2.set S.n (.dic false (mergeD [] ps))) else none
    | _ => none) Z
  rw [q1]
  simp only [if_pos (And.intro q2 q3)]
  exact q4
theorem stD_merge {g c : Nat} {r t : Int} : mergeD [] [(.str "great", .ref g), (.str "cells", .ref c), (.str "rest", .int r), (.str "turn", .int t)] = stD g c r t := by kernel_rfl
theorem o_repr {S : Sto} {v : Vl} {d : PyData} {Z : Vl → Sto → Prop} (h : toD S v = some d) (c : d.showable = true ∧ d.shown.length ≤ sizeLine ∧ d.depth ≤ 190 ∧ d.hasDict = false) : wpo (bRepr [v] S) Z = Z (.str d.shown) S := by
  have e : reprOf S v = some d.shown := by unfold reprOf; rw [h]; simp only; rw [if_pos c]
  show wpo (match reprOf S v with | some z => some (.str z, S) | none => none) Z = _
  rw [e]; rfl
end Q

set_option linter.all false
set_option maxRecDepth 100000
set_option maxHeartbeats 400000
namespace Q
open PySem PySem.Spec PyProof.Rows L2

/-! ### wanted ends of the words of QX1 -/
section
variable {E : XP} {S : Sto} {ρ : En} {D : End_} {Z : Vl → Sto → Prop}
theorem w_chain {m1 m2 : Vl → Vl → MO Vl} {fa fb fc : En → M Vl} : wpe (mChain m1 m2 fa fb fc ρ S) E Z = wpe (fa ρ S) E fun x S1 => wpe (fb ρ S1) E fun y S2 => wpo (m1 x y S2) fun z S3 => ∃ b, z = .bl b ∧ if b = true then wpe (fc ρ S3) E fun w S4 => wpo (m2 y w S4) Z else Z (.bl false) S3 := by
  unfold mChain
  simp only [w_bnd, w_lift]
  congr 1; funext x S1; congr 1; funext y S2; congr 1; funext z S3; apply propext
  cases z with
  | bl b => exact ⟨fun q => ⟨b, rfl, by cases b with
                | true => rw [if_pos rfl]; simpa only [w_bnd, w_lift] using q
                | false => rw [if_neg (by decide)]; exact q⟩, fun ⟨c, e, q⟩ => by
                  cases e
                  cases b with
                  | true => rw [if_pos rfl] at q; simpa only [w_bnd, w_lift] using q
                  | false => rw [if_neg (by decide)] at q; exact q⟩
  | _ => exact ⟨fun q => q.elim, fun ⟨c, e, _⟩ => by cases e⟩
theorem w_notV {f : En → M Vl} : wpe (mNotV f ρ S) E Z = wpe (f ρ S) E fun v S1 => ∃ b, v = .bl b ∧ Z (.bl (!b)) S1 := by
  unfold mNotV; simp only [w_bnd]
  congr 1; funext v S1; apply propext
  cases v with
  | bl b => exact ⟨fun q => ⟨b, rfl, q⟩, fun ⟨c, e, q⟩ => by cases e; exact q⟩
  | _ => exact ⟨fun q => q.elim, fun ⟨c, e, _⟩ => by cases e⟩
theorem s_lock {i n : Nat} {b : MS} {kvs : List (Vl × Vl)} (hi : ρ[i]? = some (some (.ref n))) (hS : S.at_ n = .dic false kvs)
    (h : wps (b ρ (S.set n (.dic true kvs))) ⟨fun ρ1 S1 => ∃ ks, S1.at_ n = .dic true ks ∧ D.nx ρ1 (S1.set n (.dic false ks)), fun ρ1 S1 => ∃ ks, S1.at_ n = .dic true ks ∧ D.bk ρ1 (S1.set n (.dic false ks)), fun ρ1 S1 => ∃ ks, S1.at_ n = .dic true ks ∧ D.ct ρ1 (S1.set n (.dic false ks)), fun v S1 => ∃ ks, S1.at_ n = .dic true ks ∧ D.rt v (S1.set n (.dic false ks)), noE⟩) : wps (sLock i b ρ S) D := by
  unfold sLock
  rw [hi]
  simp only [hS]
  cases e : b ρ (S.set n (.dic true kvs)) with
  | none => rw [e] at h; exact h.elim
  | some p =>
    obtain ⟨fl, ρ', S'⟩ := p
    rw [e] at h
    cases fl with
    | ex c f v => exact h.elim
    | nx => obtain ⟨ks, h1, h2⟩ := h; simp only [unl, h1]; exact h2
    | bk => obtain ⟨ks, h1, h2⟩ := h; simp only [unl, h1]; exact h2
    | ct => obtain ⟨ks, h1, h2⟩ := h; simp only [unl, h1]; exact h2
    | rt v => obtain ⟨ks, h1, h2⟩ := h; simp only [unl, h1]; exact h2
theorem w_itK {f : En → M Vl} {Z : Nxt → Sto → Prop} (h : wpe (f ρ S) E fun v S1 => ∃ n kvs, v = .ref n ∧ S1.at_ n = .dic true kvs ∧ Z (nxT (kvs.map (·.1))) S1) : wpe (mItK f ρ S) E Z := by
  unfold mItK
  rw [w_bnd]
  refine wpe_mono h (fun v S1 q => ?_) (fun _ _ _ _ z => z)
  obtain ⟨n, kvs, rfl, h1, h2⟩ := q
  simp only [h1]
  exact h2
theorem w_listR {f : En → M Vl} : (wpe (f ρ S) E fun v S1 => ∃ n : Nat, v = .int n ∧ n ≤ 1000000 ∧ Z (.ref S1.n) (S1.push (.lst (rng n)))) → wpe (mListR f ρ S) E Z := fun h => by
  unfold mListR
  rw [w_bnd]
  refine wpe_mono h (fun v S1 q => ?_) (fun _ _ _ _ z => z)
  obtain ⟨n, rfl, h1, h2⟩ := q
  simp only
  rw [if_pos (by omega)]
  have e : rngZ (n : Int) = rng n := by
    unfold rngZ rng
    simp
  rw [e]
  exact h2
theorem o_bool {b : Bool} : wpo (bBool [.bl b] S) Z = Z (.bl b) S := rfl
theorem o_listD {n : Nat} {lk : Bool} {kvs : List (Vl × Vl)} (h : S.at_ n = .dic lk kvs) : wpo (bListD [.ref n] S) Z = Z (.ref S.n) (S.push (.lst (kvs.map (·.1)))) := by
  have e : getD S n = some kvs := by unfold getD; rw [h]
  unfold bListD
  simp only [e]
  rfl
theorem sortI_self {ks : List Int} (h : ks.Pairwise (· ≤ ·)) : sortI ks = ks := (sortI_eq (List.Perm.refl ks) h).symm
theorem o_sortD {n : Nat} {lk : Bool} {kvs : List (Vl × Vl)} {ks : List Int} (h : S.at_ n = .dic lk kvs) (hk : kvs.map (·.1) = ks.map Vl.int) (hl : ks.length < 64) (hs : ks.Pairwise (· ≤ ·)) : wpo (bSortD [.ref n] S) Z = Z (.ref S.n) (S.push (.lst (ks.map Vl.int))) := by
  have e : getD S n = some kvs := by unfold getD; rw [h]
  unfold bSortD
  simp only [e, Option.bind_some, hk, asInts_map]
  rw [if_pos hl, sortI_self hs]
  rfl
theorem o_dictP {n : Nat} {xs : List Vl} {kvs : List (Vl × Vl)} (h : getR S n = some xs) (hx : asPairs xs = some kvs) : wpo (bDictP [.ref n] S) Z = Z (.ref S.n) (S.push (.dic false (mergeD [] kvs))) := by
  unfold bDictP
  simp only [h, Option.bind_some, hx]
  rfl
theorem o_clear {n : Nat} {kvs : List (Vl × Vl)} (h : S.at_ n = .dic false kvs) : wpo (mtClear (.ref n) [] S) Z = Z .non (S.set n (.dic false [])) := by
  unfold mtClear
  simp only [h]
  rfl
theorem o_tyd {n : Nat} {kvs : List (Vl × Vl)} (h : S.at_ n = .dic false kvs) : tyB "dict" S (.ref n) = true := by
  unfold tyB; simp only [h]; rfl
theorem o_inT {i : Int} {xs : List Vl} {ns : List Int} (h : asInts xs = some ns) : wpo (bInT false (.int i) (.tup xs) S) Z = Z (.bl (ns.contains i)) S := by
  unfold bInT
  simp only [h]
  rfl
theorem o_lend {n : Nat} {lk : Bool} {kvs : List (Vl × Vl)} (h : S.at_ n = .dic lk kvs) : wpo (bLen [.ref n] S) Z = Z (.int kvs.length) S := by
  unfold bLen; simp only [h]; rfl
theorem s_keyI {f : En → M Vl} {i j n : Nat} {k : Int} (hi : ρ[i]? = some (some (.ref n))) (hj : ρ[j]? = some (some (.int k))) (h : wpe (f ρ S) D.ex fun v S1 => ∃ kvs, S1.at_ n = .dic false kvs ∧ kvs.length < sizeLine ∧ D.nx ρ (S1.set n (.dic false (dPut kvs (.int k) v)))) : wps (sAsg f (gSb (mSlot i) (mSlot j)) ρ S) D := by
  rw [s_asg]
  refine wpe_mono h (fun v S1 q => ?_) (fun _ _ _ _ z => z)
  obtain ⟨kvs, h1, h2, h3⟩ := q
  have e1 : mSlot i ρ S1 = some (.ok (.ref n), S1) := by unfold mSlot; rw [hi]; rfl
  have e2 : mSlot j ρ S1 = some (.ok (.int k), S1) := by unfold mSlot; rw [hj]; rfl
  have e3 : bSet (.ref n) (.int k) v S1 = some (S1.set n (.dic false (dPut kvs (.int k) v))) := by
    unfold bSet
    simp only [h1, keyOf]
    rw [if_pos h2]
  unfold gSb
  simp only [e1, e2, e3]
  exact h3
theorem s_asg2 {f : En → M Vl} {i j : Nat} (h : wpe (f ρ S) D.ex fun v S1 => ∃ x y, v = .tup [x, y] ∧ D.nx ((ρ.set i (some x)).set j (some y)) S1) : wps (sAsg f (gTp ((gNm i) :: ((gNm j) :: []))) ρ S) D := by
  rw [s_asg]
  refine wpe_mono h (fun v S1 q => ?_) (fun _ _ _ _ z => z)
  obtain ⟨x, y, rfl, q⟩ := q
  exact q
end
/-! ### dicts with numbers as keys -/
def dEn (l : List (Nat × Vl)) : List (Vl × Vl) := l.map fun p => (.int p.1, p.2)
theorem dEn_app (l m : List (Nat × Vl)) : dEn (l ++ m) = dEn l ++ dEn m := by simp [dEn]
theorem dEn_keys (l : List (Nat × Vl)) : (dEn l).map (·.1) = (l.map fun p => (p.1 : Int)).map Vl.int := by simp [dEn]
theorem dEn_len (l : List (Nat × Vl)) : (dEn l).length = l.length := by simp [dEn]
theorem keyEq_int {i j : Int} : keyEq (.int i) (.int j) = (i == j) := rfl
theorem dPut_new {l : List (Nat × Vl)} {k : Nat} {v : Vl} (h : ∀ p ∈ l, p.1 ≠ k) : dPut (dEn l) (.int k) v = dEn (l ++ [(k, v)]) := by
  unfold dPut
  rw [if_neg, dEn_app]
  · rfl
  · intro z
    rw [List.any_eq_true] at z
    obtain ⟨q, hq, e⟩ := z
    obtain ⟨p, hp, rfl⟩ := List.mem_map.mp hq
    have e : ((p.1 : Int) == (k : Int)) = true := e
    have := beq_iff_eq.mp e
    exact h p hp (by omega)
theorem dGet_in : ∀ {l : List (Nat × Vl)} {k : Nat} {v : Vl}, (k, v) ∈ l → (l.map (·.1)).Nodup → dGet (dEn l) (.int k) = some v
  | p :: l, k, v, h, hn => by
    rw [List.map_cons, List.nodup_cons] at hn
    show (List.find? (fun p => keyEq p.1 (.int k)) (((.int p.1, p.2) : Vl × Vl) :: dEn l)).map (·.2) = some v
    rw [List.find?_cons]
    by_cases e : p.1 = k
    · have e1 : keyEq (.int p.1) (.int (k : Int)) = true := by show ((p.1 : Int) == (k : Int)) = true; rw [e]; exact beq_self_eq_true _
      simp only [e1]
      rcases List.mem_cons.mp h with h | h
      · rw [← h]; rfl
      · exact absurd (List.mem_map.mpr ⟨(k, v), h, e.symm⟩) hn.1
    · have e1 : keyEq (.int p.1) (.int (k : Int)) = false := by
        show ((p.1 : Int) == (k : Int)) = false
        exact beq_eq_false_iff_ne.mpr (by omega)
      simp only [e1]
      rcases List.mem_cons.mp h with h | h
      · exact absurd (by rw [← h]) e
      · exact dGet_in h hn.2
theorem mergeD_en : ∀ {m l : List (Nat × Vl)}, ((l ++ m).map (·.1)).Nodup → mergeD (dEn l) (dEn m) = dEn (l ++ m)
  | [], l, _ => by rw [List.append_nil]; rfl
  | p :: m, l, h => by
    show mergeD (dPut (dEn l) (.int p.1) p.2) (dEn m) = _
    have hn : ∀ q ∈ l, q.1 ≠ p.1 := by
      intro q hq e
      rw [List.map_append, List.nodup_append] at h
      exact h.2.2 q.1 (List.mem_map.mpr ⟨q, hq, rfl⟩) p.1 (by simp) e
    rw [dPut_new hn]
    have e : l ++ p :: m = (l ++ [(p.1, p.2)]) ++ m := by simp
    rw [e] at h ⊢
    exact mergeD_en h
theorem asPairs_en : ∀ (l : List (Nat × Vl)), asPairs (l.map fun p : Nat × Vl => Vl.tup [.int (p.1 : Int), p.2]) = some (dEn l)
  | [] => rfl
  | p :: l => by
    show (match keyOf (.int (p.1 : Int)) with | some _ => (asPairs (l.map fun p : Nat × Vl => Vl.tup [.int (p.1 : Int), p.2])).map ((Vl.int p.1, p.2) :: ·) | none => none) = _
    rw [asPairs_en l]
    rfl
/-- all stands but the object at f -/
structure GrX (f : Nat) (S S' : Sto) : Prop where
  n : S.n ≤ S'.n
  at_ : ∀ k, k < S.n → k ≠ f → S'.at_ k = S.at_ k
section
variable {f : Nat} {S S' S2 : Sto}
theorem GrX.refl : GrX f S S := ⟨Nat.le_refl _, fun _ _ _ => rfl⟩
theorem GrX.trans (a : GrX f S S') (b : GrX f S' S2) : GrX f S S2 := ⟨Nat.le_trans a.n b.n, fun k h1 h2 => (b.at_ k (Nat.lt_of_lt_of_le h1 a.n) h2).trans (a.at_ k h1 h2)⟩
theorem GrX.of (g : Gr 0 S S') : GrX f S S' := ⟨g.n, fun k h _ => g.at_ k (Nat.zero_le _) h⟩
theorem GrX.set {o : Ob} (g : GrX f S S') : GrX f S (S'.set f o) := ⟨g.n, fun k h1 h2 => by rw [set_ne h2]; exact g.at_ k h1 h2⟩
theorem GrX.set_new {k : Nat} {o : Ob} (g : GrX f S S') (h : S.n ≤ k) : GrX f S (S'.set k o) := ⟨g.n, fun j h1 h2 => by rw [set_ne (by omega)]; exact g.at_ j h1 h2⟩
/-- the object was new: all stands -/
theorem GrX.gr0 (g : GrX f S S') (h : S.n ≤ f) : Gr 0 S S' := ⟨g.n, fun k _ hk => g.at_ k hk (by omega)⟩
theorem GrX.push_gr {o : Ob} (g : GrX S.n (S.push o) S') : Gr 0 S S' := ⟨Nat.le_trans (Nat.le_succ _) g.n, fun k _ hk => (g.at_ k (Nat.lt_succ_of_lt hk) (Nat.ne_of_lt hk)).trans (push_lt hk)⟩
end
end Q

set_option linter.all false
set_option maxRecDepth 100000
set_option maxHeartbeats 4000000
namespace G
open PySem PySem.Spec PyProof.Rows L2 Q

/-- a value that isinstance takes, its items too -/
def tyOk (S : Sto) (v : Vl) : Prop := ∃ t, tyN S v = some t
def isWord (v : Vl) (w : Str) (n : Nat) : Bool := match v with
  | .tup (.str x :: xs) => decide (xs.length + 1 = n) && decide (x = w)
  | _ => false
theorem is_word_eq {C L : Nat → List Vl → M Vl} {v : Vl} {w : Str} {n : Nat} {S : Sto} (hn : 1 ≤ n) (hv : tyOk S v) (h0 : ∀ x xs, v = .tup (x :: xs) → tyOk S x) :
    wpe (runF 3 3 (b_is_word C L) [v, .str w, .int n] S) noE fun r S' => r = .bl (isWord v w n) ∧ S' = S := by
  obtain ⟨t, ht⟩ := hv
  refine w_run rfl ?_
  unfold b_is_word
  simp only [w_lst, w_tup, s_aug, w_caught, w_slot, w_c, w_nil, w_cons, w_bin, w_bi, w_tst, w_not, w_and, w_or, w_ite, w_andV, w_orV, w_call, w_callK, w_met, w_ok, wo_some, wo_if, w_if, s_seq, s_if, s_ret, s_exp, s_skip, s_cont, s_break, s_raise, s_set, s_par, startE, List.map_cons, List.map_nil, List.length_cons, List.length_nil, List.replicate, List.cons_append, List.nil_append, List.getElem?_cons_zero, List.getElem?_cons_succ, List.set_cons_zero, List.set_cons_succ, Option.some.injEq, exists_eq_left', exists_eq_left, true_and, and_true, Nat.zero_le, List.zip_cons_cons, List.zip_nil_right, List.foldl_cons, List.foldl_nil, o_isTup ht]
  cases v with
  | tup xs =>
    cases xs with
    | nil =>
      simp only [isTup, o_lent, o_nei]
      refine ⟨_, rfl, ?_⟩
      simp only [Bool.not_true, if_false, Bool.false_eq_true]
      refine ⟨_, rfl, ?_⟩
      have hb : (!((([] : List Vl).length : Int) == (n : Int))) = true := by simp; omega
      simp only [hb, if_true]
      first | rfl | exact ⟨rfl, trivial⟩
    | cons x xs =>
      obtain ⟨t2, ht2⟩ := h0 x xs rfl
      simp only [isTup, o_lent, o_nei, o_at0, o_isStr ht2]
      refine ⟨_, rfl, ?_⟩
      simp only [Bool.not_true, if_false, Bool.false_eq_true]
      refine ⟨_, rfl, ?_⟩
      by_cases hl : xs.length + 1 = n
      · have hb : (!((((x :: xs : List Vl).length : Nat) : Int) == (n : Int))) = false := by simp; omega
        simp only [hb, if_false, Bool.false_eq_true]
        refine ⟨_, rfl, ?_⟩
        cases x with
        | str z => simp only [isStr, if_true, o_strs]; first | exact ⟨by simp [isWord, hl], trivial⟩ | (simp [isWord, hl])
        | _ => simp only [isStr, if_false, Bool.false_eq_true]; first | rfl | exact ⟨rfl, trivial⟩
      · have hb : (!((((x :: xs : List Vl).length : Nat) : Int) == (n : Int))) = true := by simp; omega
        simp only [hb, if_true]
        try refine ⟨?_, trivial⟩
        cases x with
        | str z => simp [isWord, hl]
        | _ => rfl
  | _ =>
    simp only [isTup]
    refine ⟨_, rfl, ?_⟩
    simp only [Bool.not_false, if_true]
    first | rfl | exact ⟨rfl, trivial⟩

/-! ### kinds -/
/-- the number of ends, of a kind -/
def kdE : Vl → Option Nat
  | .tup [.str a] => if a = "text" then some 1 else none
  | .tup [.str a, x, y] => if a = "to" then (match kdE x, kdE y with | some n, some m => some (n + m) | _, _ => none) else none
  | _ => none
def kdAll : List Vl → Option Nat
  | [] => some 0
  | x :: xs => match kdE x, kdAll xs with | some n, some m => some (n + m) | _, _ => none
/-- all kinds, of so many ends together -/
def good (m : Nat) (st : List Vl) : Bool := match kdAll st with
  | some k => decide (m + k ≤ 60)
  | none => false
def isKd (v : Vl) : Bool := good 0 [v]
theorem kdE_pos {v : Vl} {n : Nat} (h : kdE v = some n) : 1 ≤ n := by
  fun_induction kdE v generalizing n with
  | case1 => cases h; exact Nat.le_refl _
  | case3 x y k1 k2 e1 e2 ih1 ih2 =>
    cases h
    have := ih1 e2
    omega
  | _ => cases h
theorem kdAll_app : ∀ {xs ys : List Vl}, kdAll (xs ++ ys) = (match kdAll xs, kdAll ys with | some n, some m => some (n + m) | _, _ => none)
  | [], ys => by
    show kdAll ys = _
    cases kdAll ys <;> simp [kdAll]
  | x :: xs, ys => by
    show (match kdE x, kdAll (xs ++ ys) with | some n, some m => some (n + m) | _, _ => none) = _
    rw [kdAll_app (xs := xs) (ys := ys)]
    show _ = (match (match kdE x, kdAll xs with | some n, some m => some (n + m) | _, _ => none), kdAll ys with | some n, some m => some (n + m) | _, _ => none)
    cases kdE x <;> cases kdAll xs <;> cases kdAll ys <;> simp [Nat.add_assoc]
theorem kdAll_len : ∀ {xs : List Vl} {n : Nat}, kdAll xs = some n → xs.length ≤ n
  | [], n, h => Nat.zero_le _
  | x :: xs, n, h => by
    have h : (match kdE x, kdAll xs with | some n, some m => some (n + m) | _, _ => none) = some n := h
    cases e1 : kdE x with
    | none => rw [e1] at h; cases h
    | some k =>
      cases e2 : kdAll xs with
      | none => rw [e1, e2] at h; cases h
      | some j =>
        rw [e1, e2] at h; cases h
        have h1 := kdE_pos e1
        have h2 := kdAll_len e2
        rw [List.length_cons]; omega
/-- a word's taking apart -/
theorem good_text {m : Nat} {st : List Vl} : good m (st ++ [.tup [.str "text"]]) = good (m + 1) st := by
  unfold good
  rw [kdAll_app]
  have e : kdAll [.tup [.str "text"]] = some 1 := by simp [kdAll, kdE]
  rw [e]
  cases kdAll st with
  | none => rfl
  | some k => simp only; congr 1; apply propext; omega
theorem good_to {m : Nat} {st : List Vl} {x y : Vl} : good m (st ++ [.tup [.str "to", x, y]]) = good m (st ++ [y, x]) := by
  unfold good
  rw [kdAll_app, kdAll_app]
  have e : kdAll [.tup [.str "to", x, y]] = (match kdE x, kdE y with | some n, some m => some (n + m) | _, _ => none) := by
    show (match kdE (.tup [.str "to", x, y]), some 0 with | some n, some m => some (n + m) | _, _ => none) = _
    rw [show kdE (.tup [.str "to", x, y]) = (match kdE x, kdE y with | some n, some m => some (n + m) | _, _ => none) from by rw [kdE]; simp]
    cases kdE x <;> cases kdE y <;> rfl
  have e2 : kdAll [y, x] = (match kdE x, kdE y with | some n, some m => some (n + m) | _, _ => none) := by
    show (match kdE y, (match kdE x, some 0 with | some n, some m => some (n + m) | _, _ => none) with | some n, some m => some (n + m) | _, _ => none) = _
    cases kdE x <;> cases kdE y <;> simp [Nat.add_comm]
  rw [e, e2]
theorem good_bad {m : Nat} {st : List Vl} {v : Vl} (h : kdE v = none) : good m (st ++ [v]) = false := by
  unfold good
  rw [kdAll_app]
  have e : kdAll [v] = none := by show (match kdE v, some 0 with | some n, some m => some (n + m) | _, _ => none) = none; rw [h]
  rw [e]
  cases kdAll st <;> rfl
theorem good_many {m : Nat} {st : List Vl} (h : 60 < m + st.length) : good m st = false := by
  unfold good
  cases e : kdAll st with
  | none => rfl
  | some k =>
    have := kdAll_len e
    simp only; rw [decide_eq_false_iff_not]; omega
/-- what is no word of these two -/
theorem kdE_none {v : Vl} (h1 : isWord v "text" 1 = false) (h2 : isWord v "to" 3 = false) : kdE v = none := by
  rw [kdE.eq_def]
  split
  · rename_i a
    have : isWord (.tup [.str a]) "text" 1 = decide (a = "text") := by simp [isWord]
    rw [this, decide_eq_false_iff_not] at h1
    rw [if_neg h1]
  · rename_i a x y
    have : isWord (.tup [.str a, x, y]) "to" 3 = decide (a = "to") := by simp [isWord]
    rw [this, decide_eq_false_iff_not] at h2
    rw [if_neg h2]
  · rfl
theorem word_text {v : Vl} (h : isWord v "text" 1 = true) : v = .tup [.str "text"] := by
  unfold isWord at h
  split at h
  · rename_i x xs
    simp only [Bool.and_eq_true, decide_eq_true_eq] at h
    obtain ⟨h1, rfl⟩ := h
    have : xs = [] := List.eq_nil_of_length_eq_zero (by omega)
    rw [this]
  · cases h
theorem word_to {v : Vl} (h : isWord v "to" 3 = true) : ∃ x y, v = .tup [.str "to", x, y] := by
  unfold isWord at h
  split at h
  · rename_i x xs
    simp only [Bool.and_eq_true, decide_eq_true_eq] at h
    obtain ⟨h1, rfl⟩ := h
    match xs, h1 with
    | [a, b], _ => exact ⟨a, b, rfl⟩
  · cases h
theorem sz1 : (1 : Nat) ≤ sizeLine := by decide
theorem sz0 : (0 : Nat) ≤ sizeLine := Nat.zero_le _

theorem is_kind_w {n lo : Nat} {S : Sto} {v : Vl} (hv : ∃ d, Dat lo S 5 v d) : wpe ((lev (n + 2)).1 2 [v] S) noE fun r S' => r = .bl (isKd v) ∧ Gr 0 S S' := by
  rw [lv_is_kind]
  refine w_run rfl ?_
  unfold b_is_kind
  simp only [w_lst, w_tup, s_aug, w_caught, w_slot, w_c, w_nil, w_cons, w_bin, w_bi, w_tst, w_not, w_and, w_or, w_ite, w_andV, w_orV, w_call, w_callK, w_met, w_ok, wo_some, wo_if, w_if, s_seq, s_if, s_ret, s_exp, s_skip, s_cont, s_break, s_raise, s_set, s_par, startE, List.map_cons, List.map_nil, List.length_cons, List.length_nil, List.replicate, List.cons_append, List.nil_append, List.getElem?_cons_zero, List.getElem?_cons_succ, List.set_cons_zero, List.set_cons_succ, Option.some.injEq, exists_eq_left', exists_eq_left, true_and, and_true, Nat.zero_le, List.zip_cons_cons, List.zip_nil_right, List.foldl_cons, List.foldl_nil]
  refine ⟨sz1, ?_⟩
  refine s_while (fun k ρ S1 => ∃ (st : List Vl) (m : Nat) (last : Option Vl), ρ = [some v, some (.ref S.n), some (.int m), last] ∧ S1.at_ S.n = .lst st ∧ S.n < S1.n ∧ Gr 0 S S1 ∧ (∀ x ∈ st, ∃ d, Dat lo S 5 x d) ∧ good m st = isKd v ∧ m + st.length ≤ 60 ∧ (st.map sizeOf).sum ≤ k) ?_ (m := ([v].map sizeOf).sum)
    ⟨[v], 0, none, rfl, push_same, Nat.lt_succ_self _, Gr.push, fun x hx => by rw [List.mem_singleton.mp hx]; exact hv, rfl, (by show 0 + 1 ≤ 60; omega), Nat.le_refl _⟩
  rintro k ρ S1 ⟨st, m, last, rfl, hs, hn, g, hd, hg, hm, hk⟩
  simp only [w_lst, w_tup, s_aug, w_caught, w_slot, w_c, w_nil, w_cons, w_bin, w_bi, w_tst, w_not, w_and, w_or, w_ite, w_andV, w_orV, w_call, w_callK, w_met, w_ok, wo_some, wo_if, w_if, s_seq, s_if, s_ret, s_exp, s_skip, s_cont, s_break, s_raise, s_set, s_par, startE, List.map_cons, List.map_nil, List.length_cons, List.length_nil, List.replicate, List.cons_append, List.nil_append, List.getElem?_cons_zero, List.getElem?_cons_succ, List.set_cons_zero, List.set_cons_succ, Option.some.injEq, exists_eq_left', exists_eq_left, true_and, and_true, Nat.zero_le, List.zip_cons_cons, List.zip_nil_right, List.foldl_cons, List.foldl_nil]
  have g2 : Gr 0 S (S1.push (.lst [])) := g.trans Gr.push
  have hd2 : ∀ {S2 : Sto}, Gr 0 S S2 → ∀ x ∈ st, ∃ d, Dat lo S2 5 x d := fun q x hx => let ⟨d, h⟩ := hd x hx; ⟨d, h.gr (q.up (Nat.zero_le _))⟩
  rw [o_neNil (xs := st) (by rw [push_lt hn]; exact hs) (hd2 g2) push_same]
  refine ⟨_, rfl, ?_⟩
  have hs2 : (S1.push (.lst [])).at_ S.n = .lst st := by rw [push_lt hn]; exact hs
  rcases List.eq_nil_or_concat st with rfl | ⟨st', one, rfl⟩
  · simp only [List.isEmpty_nil, Bool.not_true, Bool.false_eq_true, if_false]
    have e : good m ([] : List Vl) = true := by simp [good, kdAll]; simpa using hm
    rw [← hg, e]
    exact ⟨rfl, g2⟩
  · rw [List.concat_eq_append] at *
    have he : (st' ++ [one]).isEmpty = false := by simp
    simp only [he, Bool.not_false, if_true, o_tyl hs2, o_pop hs2]
    refine ⟨trivial, ?_⟩
    have g3 : Gr 0 S ((S1.push (.lst [])).set S.n (.lst st')) := g2.set_new (Nat.le_refl _)
    obtain ⟨d1, hone⟩ := hd one (by simp)
    have hone3 := hone.gr (g3.up (Nat.zero_le lo))
    have h0 : ∀ x xs, one = .tup (x :: xs) → tyOk ((S1.push (.lst [])).set S.n (.lst st')) x := fun x xs e => by
      subst e
      cases hone3 with
      | tup h => cases h with | cons h _ => exact h.ty
    rw [lv_is_word]
    refine wpe_mono (is_word_eq (by decide) hone3.ty h0) ?_ (fun _ _ _ _ z => z.elim)
    rintro _ S4 ⟨rfl, rfl⟩
    refine ⟨_, rfl, ?_⟩
    have at3 : ((S1.push (.lst [])).set S.n (.lst st')).at_ S.n = .lst st' := set_same
    have hn3 : S.n < ((S1.push (.lst [])).set S.n (.lst st')).n := Nat.lt_succ_of_lt hn
    have hm' : m + (st'.length + 1) ≤ 60 := by simpa using hm
    cases hw : isWord one "text" 1 with
    | true =>
      obtain rfl := word_text hw
      simp only [if_true, oi_int, o_lenl at3, o_add, k_MOST_ENDS, o_gt]
      refine ⟨_, rfl, ?_⟩
      have hb : decide ((60 : Int) < (m : Int) + 1 + (st'.length : Int)) = false := by rw [decide_eq_false_iff_not]; omega
      rw [hb]
      simp only [Bool.false_eq_true, if_false]
      refine ⟨_, ?_, st', m + 1, some (.tup [.str "text"]), by push_cast; rfl, at3, hn3, g3, fun x hx => hd x (List.mem_append_left _ hx), by rw [← good_text]; exact hg, by omega, Nat.le_refl _⟩
      refine Nat.lt_of_lt_of_le ?_ hk
      simp
      omega
    | false =>
      simp only [Bool.false_eq_true, if_false]
      refine wpe_mono (is_word_eq (by decide) hone3.ty h0) ?_ (fun _ _ _ _ z => z.elim)
      rintro _ S4 ⟨rfl, rfl⟩
      refine ⟨_, rfl, ?_⟩
      cases hw2 : isWord one "to" 3 with
      | false =>
        simp only [Bool.false_eq_true, if_false]
        rw [← hg, good_bad (kdE_none hw hw2)]
        exact ⟨rfl, g3⟩
      | true =>
        obtain ⟨x, y, rfl⟩ := word_to hw2
        simp only [if_true, o_tyl at3, o_at1, o_at2, true_and]
        refine ⟨by decide, ?_⟩
        have at4 : (((S1.push (.lst [])).set S.n (.lst st')).push (.lst [y, x])).at_ S.n = .lst st' := (push_lt hn3).trans at3
        rw [o_extend at4 push_same (by show st'.length + 2 ≤ sizeLine; rw [show sizeLine = 16777216 from rfl]; omega)]
        have at5 : ((((S1.push (.lst [])).set S.n (.lst st')).push (.lst [y, x])).set S.n (.lst (st' ++ [y, x]))).at_ S.n = .lst (st' ++ [y, x]) := set_same
        have g5 : Gr 0 S ((((S1.push (.lst [])).set S.n (.lst st')).push (.lst [y, x])).set S.n (.lst (st' ++ [y, x]))) := (g3.trans Gr.push).set_new (Nat.le_refl _)
        simp only [o_lenl at5, o_add, k_MOST_ENDS, o_gt]
        refine ⟨_, rfl, ?_⟩
        by_cases hb : (60 : Int) < (m : Int) + ((st' ++ [y, x]).length : Int)
        · rw [decide_eq_true hb]
          simp only [if_true]
          rw [← hg, good_to, good_many (by omega)]
          exact ⟨rfl, g5⟩
        · rw [decide_eq_false hb]
          simp only [Bool.false_eq_true, if_false]
          have hxy : ∀ z ∈ [y, x], ∃ d, Dat lo S 5 z d := fun z hz => by
            cases hone with
            | tup h =>
              refine h.mem z ?_
              simp at hz ⊢
              exact .inr hz.symm
          refine ⟨_, ?_, st' ++ [y, x], m, some (.tup [.str "to", x, y]), rfl, at5, Nat.lt_succ_of_lt hn3, g5, fun z hz => (List.mem_append.mp hz).elim (fun h => hd z (List.mem_append_left _ h)) (hxy z), by rw [← good_to]; exact hg, by omega, Nat.le_refl _⟩
          refine Nat.lt_of_lt_of_le ?_ hk
          simp
          omega
end G

set_option linter.all false
set_option maxRecDepth 100000
set_option maxHeartbeats 4000000
namespace G
open PySem PySem.Spec PyProof.Rows L2 Q

/-! ### kinds as a type of their own -/
inductive Kd where
  | text | to (a b : Kd)
def Kd.v : Kd → Vl
  | .text => .tup [.str "text"]
  | .to a b => .tup [.str "to", a.v, b.v]
def Kd.e : Kd → Nat
  | .text => 1
  | .to a b => a.e + b.e
def Kd.args : Kd → List Kd
  | .text => []
  | .to a b => a :: b.args
def Kd.d : Kd → PyData
  | .text => .tuple [.str "text"]
  | .to a b => .tuple [.str "to", a.d, b.d]
def Kd.dep : Kd → Nat
  | .text => 1
  | .to a b => max a.dep b.dep + 1
def ofArgs : List Kd → Kd
  | [] => .text
  | a :: r => .to a (ofArgs r)
theorem ofArgs_args : ∀ K : Kd, ofArgs K.args = K
  | .text => rfl
  | .to a b => by show Kd.to a (ofArgs b.args) = _; rw [ofArgs_args b]
theorem Kd.kdE : ∀ K : Kd, G.kdE K.v = some K.e
  | .text => by simp [Kd.v, Kd.e, G.kdE]
  | .to a b => by
    show G.kdE (.tup [.str "to", a.v, b.v]) = some (a.e + b.e)
    rw [G.kdE, if_pos rfl, Kd.kdE a, Kd.kdE b]
theorem kd_of {v : Vl} {n : Nat} (h : kdE v = some n) : ∃ K : Kd, v = K.v := by
  fun_induction kdE v generalizing n with
  | case1 => exact ⟨.text, rfl⟩
  | case3 x y k1 k2 e1 e2 ih1 ih2 =>
    obtain ⟨a, rfl⟩ := ih1 e2
    obtain ⟨b, rfl⟩ := ih2 e1
    exact ⟨.to a b, rfl⟩
  | _ => cases h
theorem ok_text : ("text" : Str).cps.all (· < 0x110000) = true := by decide +kernel
theorem ok_to : ("to" : Str).cps.all (· < 0x110000) = true := by decide +kernel
theorem Kd.dat {lo : Nat} {S : Sto} {k : Nat} : ∀ K : Kd, Dat lo S k K.v K.d
  | .text => .tup (.cons (.str _ ok_text) .nil)
  | .to a b => .tup (.cons (.str _ ok_to) (.cons (Kd.dat a) (.cons (Kd.dat b) .nil)))
theorem Kd.isKd (K : Kd) : isKd K.v = decide (K.e ≤ 60) := by
  unfold G.isKd good
  have : kdAll [K.v] = some K.e := by
    show (match G.kdE K.v, some 0 with | some n, some m => some (n + m) | _, _ => none) = _
    rw [K.kdE]; rfl
  rw [this]; simp
theorem ne_tt : decide (("text" : Str) = "to") = false := by decide +kernel
theorem eq_tt : decide (("to" : Str) = "to") = true := by decide +kernel
theorem eq_xx : decide (("text" : Str) = "text") = true := by decide +kernel
theorem ne_xt : decide (("to" : Str) = "text") = false := by decide +kernel

/-! ### arguments_of and the law's own -/
theorem args_len : ∀ K : Kd, K.args.length < K.e
  | .text => Nat.lt_succ_self 0
  | .to a b => by
    have := args_len b
    have h : 1 ≤ a.e := by
      cases a with
      | text => exact Nat.le_refl _
      | to x y => have := args_len y; show 1 ≤ x.e + y.e; omega
    show b.args.length + 1 < a.e + b.e
    omega
/-- the loop of both -/
theorem args_loop {S : Sto} {D : End_} (K : Kd) (hK : K.args.length ≤ 100) (h : ∀ S1, Gr 0 S S1 → S.n < S1.n → S1.at_ S.n = .lst (K.args.map Kd.v) → D.nx [some Kd.text.v, some (.ref S.n)] S1) :
    wps (sWhile (mTst (mBin bEq (mBin bSub' (mSlot 0) (mC (.int 0))) (mC (.str "to"))))
    (sSeq (sExp (mMet "list" mtAppend (mSlot 1) (mCons (mBin bSub' (mSlot 0) (mC (.int 1))) mNil)))
    (sAsg (mBin bSub' (mSlot 0) (mC (.int 2))) (gNm 0))) [some K.v, some (.ref S.n)] (S.push (.lst []))) D := by
  refine s_while (fun k ρ S1 => ∃ (cur : Kd) (done : List Kd), ρ = [some cur.v, some (.ref S.n)] ∧ S1.at_ S.n = .lst (done.map Kd.v) ∧ S.n < S1.n ∧ Gr 0 S S1 ∧ done ++ cur.args = K.args ∧ sizeOf cur ≤ k) ?_ (m := sizeOf K)
    ⟨K, [], rfl, push_same, Nat.lt_succ_self _, Gr.push, rfl, Nat.le_refl _⟩
  rintro k ρ S1 ⟨cur, done, rfl, hs, hn, g, ha, hk⟩
  simp only [w_lst, w_tup, s_aug, w_caught, w_slot, w_c, w_nil, w_cons, w_bin, w_bi, w_tst, w_not, w_and, w_or, w_ite, w_andV, w_orV, w_call, w_callK, w_met, w_ok, wo_some, wo_if, w_if, s_seq, s_if, s_ret, s_exp, s_skip, s_cont, s_break, s_raise, s_set, s_par, startE, List.map_cons, List.map_nil, List.length_cons, List.length_nil, List.replicate, List.cons_append, List.nil_append, List.getElem?_cons_zero, List.getElem?_cons_succ, List.set_cons_zero, List.set_cons_succ, Option.some.injEq, exists_eq_left', exists_eq_left, true_and, and_true, Nat.zero_le, List.zip_cons_cons, List.zip_nil_right, List.foldl_cons, List.foldl_nil]
  cases cur with
  | text =>
    simp only [Kd.v, o_at0, o_strs, ne_tt]
    refine ⟨_, rfl, ?_⟩
    simp only [Bool.false_eq_true, if_false]
    rw [show Kd.args .text = [] from rfl, List.append_nil] at ha
    rw [ha] at hs
    exact h S1 g hn hs
  | to a b =>
    have hl : done.length < sizeLine := by
      have : done.length ≤ K.args.length := by rw [← ha, List.length_append]; omega
      rw [show sizeLine = 16777216 from rfl]; omega
    simp only [Kd.v, o_at0, o_at1, o_at2, o_strs, eq_tt, o_tyl hs]
    refine ⟨_, rfl, ?_⟩
    simp only [if_true, true_and]
    rw [o_append hs (by rw [List.length_map]; exact hl)]
    refine ⟨_, ?_, b, done ++ [a], rfl, by rw [set_same]; simp, hn, g.set_new (Nat.le_refl _), by rw [← ha]; simp [Kd.args], Nat.le_refl _⟩
    refine Nat.lt_of_lt_of_le ?_ hk
    simp
    omega
theorem bigE {n : Nat} (h : n ≤ 1000000) : n < sizeLine := by rw [show sizeLine = 16777216 from rfl]; omega
theorem args_of_w {n : Nat} {S : Sto} {K : Kd} (hK : K.e ≤ 100) : wpe ((lev (n + 1)).1 4 [K.v] S) noE fun r S' => r = .tup (K.args.map Kd.v) ∧ Gr 0 S S' := by
  rw [lv_arguments_of]
  refine w_run rfl ?_
  unfold b_arguments_of
  simp only [w_lst, w_tup, s_aug, w_caught, w_slot, w_c, w_nil, w_cons, w_bin, w_bi, w_tst, w_not, w_and, w_or, w_ite, w_andV, w_orV, w_call, w_callK, w_met, w_ok, wo_some, wo_if, w_if, s_seq, s_if, s_ret, s_exp, s_skip, s_cont, s_break, s_raise, s_set, s_par, startE, List.map_cons, List.map_nil, List.length_cons, List.length_nil, List.replicate, List.cons_append, List.nil_append, List.getElem?_cons_zero, List.getElem?_cons_succ, List.set_cons_zero, List.set_cons_succ, Option.some.injEq, exists_eq_left', exists_eq_left, true_and, and_true, Nat.zero_le, List.zip_cons_cons, List.zip_nil_right, List.foldl_cons, List.foldl_nil]
  refine args_loop K (by have := args_len K; omega) fun S1 g hn hs => ?_
  simp only [w_lst, w_tup, s_aug, w_caught, w_slot, w_c, w_nil, w_cons, w_bin, w_bi, w_tst, w_not, w_and, w_or, w_ite, w_andV, w_orV, w_call, w_callK, w_met, w_ok, wo_some, wo_if, w_if, s_seq, s_if, s_ret, s_exp, s_skip, s_cont, s_break, s_raise, s_set, s_par, startE, List.map_cons, List.map_nil, List.length_cons, List.length_nil, List.replicate, List.cons_append, List.nil_append, List.getElem?_cons_zero, List.getElem?_cons_succ, List.set_cons_zero, List.set_cons_succ, Option.some.injEq, exists_eq_left', exists_eq_left, true_and, and_true, Nat.zero_le, List.zip_cons_cons, List.zip_nil_right, List.foldl_cons, List.foldl_nil]
  rw [o_tuple (getR_l hs)]
  exact ⟨rfl, g⟩
theorem wanted_w {n : Nat} {S : Sto} {K : Kd} (hK : K.e ≤ 100) : wpe ((lev (n + 1)).1 20 [K.v] S) noE fun r S' => r = .ref S.n ∧ S.n < S'.n ∧ S'.at_ S.n = .lst (K.args.map Kd.v) ∧ Gr 0 S S' := by
  rw [lv__law_hd_wanted]
  refine w_run rfl ?_
  unfold b__law_hd_wanted
  simp only [w_lst, w_tup, s_aug, w_caught, w_slot, w_c, w_nil, w_cons, w_bin, w_bi, w_tst, w_not, w_and, w_or, w_ite, w_andV, w_orV, w_call, w_callK, w_met, w_ok, wo_some, wo_if, w_if, s_seq, s_if, s_ret, s_exp, s_skip, s_cont, s_break, s_raise, s_set, s_par, startE, List.map_cons, List.map_nil, List.length_cons, List.length_nil, List.replicate, List.cons_append, List.nil_append, List.getElem?_cons_zero, List.getElem?_cons_succ, List.set_cons_zero, List.set_cons_succ, Option.some.injEq, exists_eq_left', exists_eq_left, true_and, and_true, Nat.zero_le, List.zip_cons_cons, List.zip_nil_right, List.foldl_cons, List.foldl_nil]
  refine args_loop K (by have := args_len K; omega) fun S1 g hn hs => ?_
  simp only [w_lst, w_tup, s_aug, w_caught, w_slot, w_c, w_nil, w_cons, w_bin, w_bi, w_tst, w_not, w_and, w_or, w_ite, w_andV, w_orV, w_call, w_callK, w_met, w_ok, wo_some, wo_if, w_if, s_seq, s_if, s_ret, s_exp, s_skip, s_cont, s_break, s_raise, s_set, s_par, startE, List.map_cons, List.map_nil, List.length_cons, List.length_nil, List.replicate, List.cons_append, List.nil_append, List.getElem?_cons_zero, List.getElem?_cons_succ, List.set_cons_zero, List.set_cons_succ, Option.some.injEq, exists_eq_left', exists_eq_left, true_and, and_true, Nat.zero_le, List.zip_cons_cons, List.zip_nil_right, List.foldl_cons, List.foldl_nil]
  exact ⟨hn, hs, g⟩
/-! ### the number of ends, the order -/
def Kd.ht : Kd → Nat
  | .text => 0
  | .to a b => max (a.ht + 1) b.ht
theorem ht_args : ∀ (K : Kd), ∀ a ∈ K.args, a.ht + 1 ≤ K.ht
  | .text, a, h => by cases h
  | .to x y, a, h => by
    rcases List.mem_cons.mp h with e | e
    · subst e; exact Nat.le_max_left _ _
    · exact Nat.le_trans (ht_args y a e) (Nat.le_max_right _ _)
theorem e_pos : ∀ K : Kd, 1 ≤ K.e
  | .text => Nat.le_refl _
  | .to x y => by have := e_pos y; show 1 ≤ x.e + y.e; omega
theorem e_args : ∀ (K : Kd), K.e = 1 + (K.args.map Kd.e).sum
  | .text => rfl
  | .to x y => by show x.e + y.e = 1 + (x.e + (y.args.map Kd.e).sum); have := e_args y; omega
theorem le_sum : ∀ {l : List Nat} {n : Nat}, n ∈ l → n ≤ l.sum
  | x :: xs, n, h => by
    rcases List.mem_cons.mp h with e | e
    · subst e; simp
    · have := le_sum e; simp; omega
theorem e_mem {K a : Kd} (h : a ∈ K.args) : a.e < K.e := by
  have h1 := e_args K
  have h2 : a.e ≤ (K.args.map Kd.e).sum := le_sum (List.mem_map.mpr ⟨a, h, rfl⟩)
  omega
theorem ht_e : ∀ K : Kd, K.ht < K.e
  | .text => Nat.lt_succ_self 0
  | .to x y => by
    have h1 := ht_e x
    have h2 := ht_e y
    have h3 := e_pos x
    have h4 := e_pos y
    show max (x.ht + 1) y.ht < x.e + y.e
    omega
theorem sum_cast : ∀ l : List Kd, ((l.map fun a => (a.e : Int)).sum) = ((l.map Kd.e).sum : Nat)
  | [] => rfl
  | a :: l => by simp [sum_cast l]
theorem many_ends_w : ∀ (N : Nat) (K : Kd) (S : Sto) (m : Nat), K.ht ≤ N → N + 3 ≤ m → K.e ≤ 100 → wpe ((lev m).1 5 [K.v] S) noE fun r S' => r = .int K.e ∧ Gr 0 S S' := by
  intro N
  induction N using Nat.strongRecOn with
  | _ N ih =>
    intro K S m hN hm hK
    obtain ⟨m, rfl⟩ : ∃ m', m = m' + 2 := ⟨m - 2, by omega⟩
    rw [lv_many_ends]
    refine w_run rfl ?_
    unfold b_many_ends
    simp only [w_lst, w_tup, s_aug, w_caught, w_slot, w_c, w_nil, w_cons, w_bin, w_bi, w_tst, w_not, w_and, w_or, w_ite, w_andV, w_orV, w_call, w_callK, w_met, w_ok, wo_some, wo_if, w_if, s_seq, s_if, s_ret, s_exp, s_skip, s_cont, s_break, s_raise, s_set, s_par, startE, List.map_cons, List.map_nil, List.length_cons, List.length_nil, List.replicate, List.cons_append, List.nil_append, List.getElem?_cons_zero, List.getElem?_cons_succ, List.set_cons_zero, List.set_cons_succ, Option.some.injEq, exists_eq_left', exists_eq_left, true_and, and_true, Nat.zero_le, List.zip_cons_cons, List.zip_nil_right, List.foldl_cons, List.foldl_nil]
    refine w_lcmap ?_
    simp only [w_it, w_lst, w_tup, s_aug, w_caught, w_slot, w_c, w_nil, w_cons, w_bin, w_bi, w_tst, w_not, w_and, w_or, w_ite, w_andV, w_orV, w_call, w_callK, w_met, w_ok, wo_some, wo_if, w_if, s_seq, s_if, s_ret, s_exp, s_skip, s_cont, s_break, s_raise, s_set, s_par, startE, List.map_cons, List.map_nil, List.length_cons, List.length_nil, List.replicate, List.cons_append, List.nil_append, List.getElem?_cons_zero, List.getElem?_cons_succ, List.set_cons_zero, List.set_cons_succ, Option.some.injEq, exists_eq_left', exists_eq_left, true_and, and_true, Nat.zero_le, List.zip_cons_cons, List.zip_nil_right, List.foldl_cons, List.foldl_nil]
    refine wpe_mono (args_of_w hK) ?_ (fun _ _ _ _ z => z.elim)
    rintro _ S1 ⟨rfl, g1⟩
    refine .inl ⟨_, rfl, _, K.args.map fun a => .int a.e, by simp, ?_, fun i S2 _ _ => rfl, fun i x y S2 hx hy g => ?_, fun S2 g hn hs => ?_⟩
    · have := args_len K; rw [List.length_map]; omega
    · rw [List.getElem?_map] at hx hy
      cases ha : K.args[i]? with
      | none => rw [ha] at hx; cases hx
      | some a =>
        rw [ha] at hx hy; cases hx; cases hy
        have hmem : a ∈ K.args := List.mem_of_getElem? ha
        have h1 := ht_args K a hmem
        have h2 := e_mem hmem
        refine ⟨_, rfl, ?_⟩
        simp only [w_true, true_and]
        refine ⟨Gr.refl, ?_⟩
        simp only [w_lst, w_tup, s_aug, w_caught, w_slot, w_c, w_nil, w_cons, w_bin, w_bi, w_tst, w_not, w_and, w_or, w_ite, w_andV, w_orV, w_call, w_callK, w_met, w_ok, wo_some, wo_if, w_if, s_seq, s_if, s_ret, s_exp, s_skip, s_cont, s_break, s_raise, s_set, s_par, startE, List.map_cons, List.map_nil, List.length_cons, List.length_nil, List.replicate, List.cons_append, List.nil_append, List.getElem?_cons_zero, List.getElem?_cons_succ, List.set_cons_zero, List.set_cons_succ, Option.some.injEq, exists_eq_left', exists_eq_left, true_and, and_true, Nat.zero_le, List.zip_cons_cons, List.zip_nil_right, List.foldl_cons, List.foldl_nil, wipeE]
        exact ih a.ht (by omega) a S2 (m + 1) (Nat.le_refl _) (by omega) (by omega)
    · rw [o_sum (ns := K.args.map fun a => (a.e : Int)) (by rw [getR_l hs, List.map_map]; rfl), o_add]
      refine ⟨?_, g1.trans g⟩
      rw [sum_cast, e_args K]
      push_cast
      rfl
end G

set_option linter.all false
set_option maxRecDepth 100000
set_option maxHeartbeats 4000000
namespace G
open PySem PySem.Spec PyProof.Rows L2 Q

/-- a kind refused -/
abbrev badE (S : Sto) (x : Str) : XP := fun c g w S' => c = x ∧ g = "" ∧ w = .non ∧ Gr 0 S S'
theorem need_kind_w {n lo : Nat} {S : Sto} {v : Vl} (hv : ∃ d, Dat lo S 5 v d) : wpe ((lev (n + 3)).1 3 [v] S) (fun c g w S' => badE S "BadKind" c g w S' ∧ isKd v = false) fun r S' => isKd v = true ∧ Gr 0 S S' := by
  rw [lv_need_kind]
  refine w_run rfl ?_
  unfold b_need_kind
  simp only [w_lst, w_tup, s_aug, w_caught, w_slot, w_c, w_nil, w_cons, w_bin, w_bi, w_tst, w_not, w_and, w_or, w_ite, w_andV, w_orV, w_call, w_callK, w_met, w_ok, wo_some, wo_if, w_if, s_seq, s_if, s_ret, s_exp, s_skip, s_cont, s_break, s_raise, s_set, s_par, startE, List.map_cons, List.map_nil, List.length_cons, List.length_nil, List.replicate, List.cons_append, List.nil_append, List.getElem?_cons_zero, List.getElem?_cons_succ, List.set_cons_zero, List.set_cons_succ, Option.some.injEq, exists_eq_left', exists_eq_left, true_and, and_true, Nat.zero_le, List.zip_cons_cons, List.zip_nil_right, List.foldl_cons, List.foldl_nil]
  refine wpe_mono (is_kind_w hv) ?_ (fun _ _ _ _ z => z.elim)
  rintro _ S1 ⟨rfl, g⟩
  refine ⟨_, rfl, ?_⟩
  cases h : isKd v with
  | true => simp only [Bool.not_true, Bool.false_eq_true, if_false]; first | exact g | exact ⟨rfl, g⟩ | exact ⟨trivial, g⟩
  | false => simp only [Bool.not_false, if_true]; first | exact ⟨⟨rfl, rfl, rfl, g⟩, trivial⟩ | exact ⟨⟨rfl, rfl, rfl, g⟩, rfl⟩ | exact ⟨rfl, rfl, rfl, g⟩ | exact g
theorem isKd_t {K : Kd} (h : K.e ≤ 60) : isKd K.v = true := by rw [K.isKd]; exact decide_eq_true h
theorem isKd_f {K : Kd} (h : 60 < K.e) : isKd K.v = false := by rw [K.isKd]; exact decide_eq_false (by omega)
theorem oh_ends_w : ∀ (K : Kd) (S : Sto) (m : Nat), K.e + 1 ≤ m → wpe ((lev m).1 19 [K.v] S) noE fun r S' => r = .int K.e ∧ S' = S
  | .text, S, m, hm => by
    obtain ⟨m, rfl⟩ : ∃ m', m = m' + 1 := ⟨m - 1, by omega⟩
    rw [lv__law_hd_size]
    refine w_run rfl ?_
    unfold b__law_hd_size
    simp only [w_lst, w_tup, s_aug, w_caught, w_slot, w_c, w_nil, w_cons, w_bin, w_bi, w_tst, w_not, w_and, w_or, w_ite, w_andV, w_orV, w_call, w_callK, w_met, w_ok, wo_some, wo_if, w_if, s_seq, s_if, s_ret, s_exp, s_skip, s_cont, s_break, s_raise, s_set, s_par, startE, List.map_cons, List.map_nil, List.length_cons, List.length_nil, List.replicate, List.cons_append, List.nil_append, List.getElem?_cons_zero, List.getElem?_cons_succ, List.set_cons_zero, List.set_cons_succ, Option.some.injEq, exists_eq_left', exists_eq_left, true_and, and_true, Nat.zero_le, List.zip_cons_cons, List.zip_nil_right, List.foldl_cons, List.foldl_nil, Kd.v, o_at0, o_strs, eq_xx]
    refine ⟨_, rfl, ?_⟩
    first | rfl | exact ⟨rfl, rfl⟩ | (simp only [if_true]; first | rfl | exact ⟨rfl, rfl⟩)
  | .to a b, S, m, hm => by
    have h1 := e_pos a
    have h2 := e_pos b
    have hm : a.e + b.e + 1 ≤ m := hm
    obtain ⟨m, rfl⟩ : ∃ m', m = m' + 1 := ⟨m - 1, by omega⟩
    rw [lv__law_hd_size]
    refine w_run rfl ?_
    unfold b__law_hd_size
    simp only [w_lst, w_tup, s_aug, w_caught, w_slot, w_c, w_nil, w_cons, w_bin, w_bi, w_tst, w_not, w_and, w_or, w_ite, w_andV, w_orV, w_call, w_callK, w_met, w_ok, wo_some, wo_if, w_if, s_seq, s_if, s_ret, s_exp, s_skip, s_cont, s_break, s_raise, s_set, s_par, startE, List.map_cons, List.map_nil, List.length_cons, List.length_nil, List.replicate, List.cons_append, List.nil_append, List.getElem?_cons_zero, List.getElem?_cons_succ, List.set_cons_zero, List.set_cons_succ, Option.some.injEq, exists_eq_left', exists_eq_left, true_and, and_true, Nat.zero_le, List.zip_cons_cons, List.zip_nil_right, List.foldl_cons, List.foldl_nil, Kd.v, o_at0, o_at1, o_at2, o_strs, ne_xt]
    refine ⟨_, rfl, ?_⟩
    simp only [Bool.false_eq_true, if_false]
    refine wpe_mono (oh_ends_w a S m (by omega)) ?_ (fun _ _ _ _ z => z.elim)
    rintro _ S1 ⟨rfl, rfl⟩
    refine wpe_mono (oh_ends_w b S1 m (by omega)) ?_ (fun _ _ _ _ z => z.elim)
    rintro _ S2 ⟨rfl, rfl⟩
    rw [o_add]
    first | exact ⟨by simp [Kd.e], rfl⟩ | simp [Kd.e]
end G

set_option linter.all false
set_option maxRecDepth 100000
set_option maxHeartbeats 4000000
namespace G
open PySem PySem.Spec PyProof.Rows L2 Q

abbrev bigT : Nat := 2 ^ 40
theorem cmulL {i j : Int} (h1 : -(2 ^ 64) < i) (h2 : i < 2 ^ 64) : CMul i j := .inl ⟨h1, h2⟩
theorem cmulR {i j : Int} (h1 : -(2 ^ 64) < j) (h2 : j < 2 ^ 64) : CMul i j := .inr ⟨h1, h2⟩
def primes : List Int := [2147483579, 2147483629, 2147483563]
theorem prime_of {i : Nat} {x : Vl} (h : (primes.map Vl.int)[i]? = some x) : ∃ p : Int, x = .int p ∧ 2147483563 ≤ p ∧ p ≤ 2147483629 := by
  rw [List.getElem?_map] at h
  cases e : primes[i]? with
  | none => rw [e] at h; cases h
  | some p =>
    rw [e] at h; cases h
    refine ⟨p, rfl, ?_⟩
    have := List.mem_of_getElem? e
    simp [primes] at this
    omega
theorem blended_w {n lo d g c T : Nat} {S : Sto} (s : St lo d g c T S) (hT : T < bigT) : wpe ((lev (n + 1)).1 14 [.ref d] S) noE fun r S' => ∃ i : Int, r = .int i ∧ St lo d g c (T + 1) S' ∧ Gr lo S S' ∧ S'.at_ g = S.at_ g := by
  obtain ⟨r0, t, hd, ht0, htT⟩ := s.d_
  have hT' : (t : Int) < 2 ^ 40 := by have : (T : Int) < 2 ^ 40 := by exact_mod_cast hT
                                      omega
  rw [lv__law_blended]
  refine w_run rfl ?_
  unfold b__law_blended
  simp only [w_lst, w_tup, s_aug, w_caught, w_slot, w_c, w_nil, w_cons, w_bin, w_bi, w_tst, w_not, w_and, w_or, w_ite, w_andV, w_orV, w_call, w_callK, w_met, w_ok, wo_some, wo_if, w_if, s_seq, s_if, s_ret, s_exp, s_skip, s_cont, s_break, s_raise, s_set, s_par, startE, List.map_cons, List.map_nil, List.length_cons, List.length_nil, List.replicate, List.cons_append, List.nil_append, List.getElem?_cons_zero, List.getElem?_cons_succ, List.set_cons_zero, List.set_cons_succ, Option.some.injEq, exists_eq_left', exists_eq_left, true_and, and_true, Nat.zero_le, List.zip_cons_cons, List.zip_nil_right, List.foldl_cons, List.foldl_nil, o_get hd get_turn, o_add, s_key, set_key hd, put_turn]
  have s1 : St lo d g c (T + 1) (S.set d (.dic false (stD g c r0 (t + 1)))) := s.setD (by omega) (by push_cast; omega)
  have g1 : Gr lo S (S.set d (.dic false (stD g c r0 (t + 1)))) := Gr.refl.set_low s.dl
  have k1 : (S.set d (.dic false (stD g c r0 (t + 1)))).at_ g = S.at_ g := set_ne (Ne.symm s.dg)
  refine s_for ?_
  simp only [w_it, w_lst, w_tup, s_aug, w_caught, w_slot, w_c, w_nil, w_cons, w_bin, w_bi, w_tst, w_not, w_and, w_or, w_ite, w_andV, w_orV, w_call, w_callK, w_met, w_ok, wo_some, wo_if, w_if, s_seq, s_if, s_ret, s_exp, s_skip, s_cont, s_break, s_raise, s_set, s_par, startE, List.map_cons, List.map_nil, List.length_cons, List.length_nil, List.replicate, List.cons_append, List.nil_append, List.getElem?_cons_zero, List.getElem?_cons_succ, List.set_cons_zero, List.set_cons_succ, Option.some.injEq, exists_eq_left', exists_eq_left, true_and, and_true, Nat.zero_le, List.zip_cons_cons, List.zip_nil_right, List.foldl_cons, List.foldl_nil]
  refine ⟨by decide, .inr (.inl ⟨_, _, rfl, getR_l push_same, primes.map Vl.int, fun i ρ S2 => ∃ (f : Int) (a b e : Option Vl), ρ = [some (.ref d), a, some (.int (t + 1)), some (.int f), b, e] ∧ St lo d g c (T + 1) S2 ∧ Gr lo S S2 ∧ S2.at_ g = S.at_ g ∧ Gr 0 ((S.set d (.dic false (stD g c r0 (t + 1)))).push (.lst [.int 2147483579, .int 2147483629, .int 2147483563])) S2,
    ⟨0, none, none, none, rfl, s1.gr Gr.push, g1.trans Gr.push, ?_, Gr.refl⟩, fun i ρ S2 _ ⟨_, _, _, _, _, _, _, _, gg⟩ => nxL_at (getR_l ((gg.at_ _ (Nat.zero_le _) (Nat.lt_succ_self _)).trans push_same)), ?_, ?_⟩)⟩
  · rw [push_lt (by show g < S.n; have := s.gl; have := s.ln; omega)]; exact k1
  · rintro i x ρ S2 hx ⟨f, a, b, e, rfl, s2, g2, k2, gg⟩
    obtain ⟨p, rfl, hp1, hp2⟩ := prime_of hx
    simp only [gNm, w_lst, w_tup, s_aug, w_caught, w_slot, w_c, w_nil, w_cons, w_bin, w_bi, w_tst, w_not, w_and, w_or, w_ite, w_andV, w_orV, w_call, w_callK, w_met, w_ok, wo_some, wo_if, w_if, s_seq, s_if, s_ret, s_exp, s_skip, s_cont, s_break, s_raise, s_set, s_par, startE, List.map_cons, List.map_nil, List.length_cons, List.length_nil, List.replicate, List.cons_append, List.nil_append, List.getElem?_cons_zero, List.getElem?_cons_succ, List.set_cons_zero, List.set_cons_succ, Option.some.injEq, exists_eq_left', exists_eq_left, true_and, and_true, Nat.zero_le, List.zip_cons_cons, List.zip_nil_right, List.foldl_cons, List.foldl_nil]
    rw [o_mul (cmulL (by decide) (by decide)), o_div ⟨by decide, by decide⟩]
    simp only [o_add]
    have hd2 := s2.d_
    obtain ⟨r2, t2, hd2, _, _⟩ := s2.d_
    obtain ⟨cs, hc2⟩ := s2.c_
    have hb0 : 0 ≤ 48271 * (t + 1) + p / 53 ∧ 48271 * (t + 1) + p / 53 < 2 ^ 60 := by
      have h1 : 0 ≤ p / 53 := Int.ediv_nonneg (by omega) (by decide)
      have h2 : p / 53 ≤ p := Int.ediv_le_self _ (by omega)
      constructor <;> omega
    refine s_for ?_
    simp only [w_it, w_lst, w_tup, s_aug, w_caught, w_slot, w_c, w_nil, w_cons, w_bin, w_bi, w_tst, w_not, w_and, w_or, w_ite, w_andV, w_orV, w_call, w_callK, w_met, w_ok, wo_some, wo_if, w_if, s_seq, s_if, s_ret, s_exp, s_skip, s_cont, s_break, s_raise, s_set, s_par, startE, List.map_cons, List.map_nil, List.length_cons, List.length_nil, List.replicate, List.cons_append, List.nil_append, List.getElem?_cons_zero, List.getElem?_cons_succ, List.set_cons_zero, List.set_cons_succ, Option.some.injEq, exists_eq_left', exists_eq_left, true_and, and_true, Nat.zero_le, List.zip_cons_cons, List.zip_nil_right, List.foldl_cons, List.foldl_nil, o_get hd2 get_cells]
    refine .inr (.inl ⟨_, _, rfl, getR_l hc2, cs.map Vl.int, fun i ρ S3 => ∃ (bl : Int) (e : Option Vl), ρ = [some (.ref d), some (.int p), some (.int (t + 1)), some (.int f), some (.int bl), e] ∧ S3 = S2 ∧ 0 ≤ bl ∧ bl < 2 ^ 60, ⟨_, e, rfl, rfl, hb0.1, hb0.2⟩, fun i ρ S3 _ ⟨_, _, _, z, _, _⟩ => by rw [z]; exact nxL_at (getR_l hc2), ?_, ?_⟩)
    · rintro j y ρ S3 hy ⟨bl, e, rfl, rfl, h1, h2⟩
      rw [List.getElem?_map] at hy
      cases ey : cs[j]? with
      | none => rw [ey] at hy; cases hy
      | some z =>
        rw [ey] at hy; cases hy
        simp only [gNm, w_lst, w_tup, s_aug, w_caught, w_slot, w_c, w_nil, w_cons, w_bin, w_bi, w_tst, w_not, w_and, w_or, w_ite, w_andV, w_orV, w_call, w_callK, w_met, w_ok, wo_some, wo_if, w_if, s_seq, s_if, s_ret, s_exp, s_skip, s_cont, s_break, s_raise, s_set, s_par, startE, List.map_cons, List.map_nil, List.length_cons, List.length_nil, List.replicate, List.cons_append, List.nil_append, List.getElem?_cons_zero, List.getElem?_cons_succ, List.set_cons_zero, List.set_cons_succ, Option.some.injEq, exists_eq_left', exists_eq_left, true_and, and_true, Nat.zero_le, List.zip_cons_cons, List.zip_nil_right, List.foldl_cons, List.foldl_nil]
        rw [o_mul (cmulR (by decide) (by decide))]
        simp only [o_add, o_int]
        rw [o_mod (by omega)]
        have h3 := Int.emod_nonneg (bl * 69621 + z + (t + 1)) (show p ≠ 0 by omega)
        have h4 := Int.emod_lt_of_pos (bl * 69621 + z + (t + 1)) (show 0 < p by omega)
        exact ⟨_, some (.int z), rfl, rfl, h3, by omega⟩
    · rintro ρ S3 ⟨bl, e, rfl, rfl, h1, h2⟩
      simp only [w_lst, w_tup, s_aug, w_caught, w_slot, w_c, w_nil, w_cons, w_bin, w_bi, w_tst, w_not, w_and, w_or, w_ite, w_andV, w_orV, w_call, w_callK, w_met, w_ok, wo_some, wo_if, w_if, s_seq, s_if, s_ret, s_exp, s_skip, s_cont, s_break, s_raise, s_set, s_par, startE, List.map_cons, List.map_nil, List.length_cons, List.length_nil, List.replicate, List.cons_append, List.nil_append, List.getElem?_cons_zero, List.getElem?_cons_succ, List.set_cons_zero, List.set_cons_succ, Option.some.injEq, exists_eq_left', exists_eq_left, true_and, and_true, Nat.zero_le, List.zip_cons_cons, List.zip_nil_right, List.foldl_cons, List.foldl_nil]
      rw [o_mul (cmulR (by decide) (by decide)), o_pow ⟨by decide, by decide, by omega⟩]
      simp only [o_int]
      rw [o_mod (by omega)]
      simp only [o_add]
      exact ⟨_, _, _, _, rfl, s2, g2, k2, gg⟩
  · rintro ρ S2 ⟨f, a, b, e, rfl, s2, g2, k2, _⟩
    simp only [w_lst, w_tup, s_aug, w_caught, w_slot, w_c, w_nil, w_cons, w_bin, w_bi, w_tst, w_not, w_and, w_or, w_ite, w_andV, w_orV, w_call, w_callK, w_met, w_ok, wo_some, wo_if, w_if, s_seq, s_if, s_ret, s_exp, s_skip, s_cont, s_break, s_raise, s_set, s_par, startE, List.map_cons, List.map_nil, List.length_cons, List.length_nil, List.replicate, List.cons_append, List.nil_append, List.getElem?_cons_zero, List.getElem?_cons_succ, List.set_cons_zero, List.set_cons_succ, Option.some.injEq, exists_eq_left', exists_eq_left, true_and, and_true, Nat.zero_le, List.zip_cons_cons, List.zip_nil_right, List.foldl_cons, List.foldl_nil]
    exact ⟨_, rfl, s2, g2, k2⟩
theorem draw_w {n lo d g c T : Nat} {S : Sto} {room : Int} (s : St lo d g c T S) (hT : T < bigT) (h1 : 0 < room) (h2 : room < 1073741824) :
    wpe ((lev (n + 2)).1 15 [.ref d, .int room] S) noE fun r S' => ∃ k : Nat, r = .int k ∧ (k : Int) < room ∧ St lo d g c (T + 1) S' ∧ Gr lo S S' := by
  obtain ⟨r0, t, hd, ht0, htT⟩ := s.d_
  rw [lv__law_draw]
  refine w_run rfl ?_
  unfold b__law_draw
  have tail : ∀ S1, St lo d g c (T + 1) S1 → Gr lo S S1 → wps (sSeq (sAsg (mBin bMod (mBi bInt (mCons (mBin bSub' (mSlot 0) (mC (.str "rest"))) mNil)) (mSlot 1)) (gNm 2))
    (sSeq (sAsg (mBin bDiv (mBin bSub' (mSlot 0) (mC (.str "rest"))) (mSlot 1)) (gSb (mSlot 0) (mC (.str "rest"))))
    (sRet (mSlot 2))) [some (.ref d), some (.int room), none] S1) ⟨fun _ S1 => ∃ k : Nat, Vl.non = .int k ∧ (k : Int) < room ∧ St lo d g c (T + 1) S1 ∧ Gr lo S S1, fun _ _ => False, fun _ _ => False, fun r S' => ∃ k : Nat, r = .int k ∧ (k : Int) < room ∧ St lo d g c (T + 1) S' ∧ Gr lo S S', noE⟩ := fun S1 s1 g1 => by
    obtain ⟨r1, t1, hd1, h3, h4⟩ := s1.d_
    simp only [w_lst, w_tup, s_aug, w_caught, w_slot, w_c, w_nil, w_cons, w_bin, w_bi, w_tst, w_not, w_and, w_or, w_ite, w_andV, w_orV, w_call, w_callK, w_met, w_ok, wo_some, wo_if, w_if, s_seq, s_if, s_ret, s_exp, s_skip, s_cont, s_break, s_raise, s_set, s_par, startE, List.map_cons, List.map_nil, List.length_cons, List.length_nil, List.replicate, List.cons_append, List.nil_append, List.getElem?_cons_zero, List.getElem?_cons_succ, List.set_cons_zero, List.set_cons_succ, Option.some.injEq, exists_eq_left', exists_eq_left, true_and, and_true, Nat.zero_le, List.zip_cons_cons, List.zip_nil_right, List.foldl_cons, List.foldl_nil, o_get hd1 get_rest, o_int]
    rw [o_mod h1]
    simp only [s_key, w_lst, w_tup, s_aug, w_caught, w_slot, w_c, w_nil, w_cons, w_bin, w_bi, w_tst, w_not, w_and, w_or, w_ite, w_andV, w_orV, w_call, w_callK, w_met, w_ok, wo_some, wo_if, w_if, s_seq, s_if, s_ret, s_exp, s_skip, s_cont, s_break, s_raise, s_set, s_par, startE, List.map_cons, List.map_nil, List.length_cons, List.length_nil, List.replicate, List.cons_append, List.nil_append, List.getElem?_cons_zero, List.getElem?_cons_succ, List.set_cons_zero, List.set_cons_succ, Option.some.injEq, exists_eq_left', exists_eq_left, true_and, and_true, Nat.zero_le, List.zip_cons_cons, List.zip_nil_right, List.foldl_cons, List.foldl_nil, o_get hd1 get_rest]
    rw [o_div ⟨h1, h2⟩]
    simp only [set_key hd1, put_rest]
    have q1 := Int.emod_nonneg r1 (show room ≠ 0 by omega)
    have q2 := Int.emod_lt_of_pos r1 h1
    exact ⟨(r1 % room).toNat, by rw [Int.toNat_of_nonneg q1], by rw [Int.toNat_of_nonneg q1]; exact q2, s1.setD h3 h4, g1.set_low s1.dl⟩
  rw [s_seq]
  simp only [w_lst, w_tup, s_aug, w_caught, w_slot, w_c, w_nil, w_cons, w_bin, w_bi, w_tst, w_not, w_and, w_or, w_ite, w_andV, w_orV, w_call, w_callK, w_met, w_ok, wo_some, wo_if, w_if, s_seq, s_if, s_ret, s_exp, s_skip, s_cont, s_break, s_raise, s_set, s_par, startE, List.map_cons, List.map_nil, List.length_cons, List.length_nil, List.replicate, List.cons_append, List.nil_append, List.getElem?_cons_zero, List.getElem?_cons_succ, List.set_cons_zero, List.set_cons_succ, Option.some.injEq, exists_eq_left', exists_eq_left, true_and, and_true, Nat.zero_le, List.zip_cons_cons, List.zip_nil_right, List.foldl_cons, List.foldl_nil, o_get hd get_rest, o_eqi]
  refine ⟨_, rfl, ?_⟩
  by_cases hz : (r0 == 0) = true
  · rw [hz]
    simp only [if_true, s_key, w_lst, w_tup, s_aug, w_caught, w_slot, w_c, w_nil, w_cons, w_bin, w_bi, w_tst, w_not, w_and, w_or, w_ite, w_andV, w_orV, w_call, w_callK, w_met, w_ok, wo_some, wo_if, w_if, s_seq, s_if, s_ret, s_exp, s_skip, s_cont, s_break, s_raise, s_set, s_par, startE, List.map_cons, List.map_nil, List.length_cons, List.length_nil, List.replicate, List.cons_append, List.nil_append, List.getElem?_cons_zero, List.getElem?_cons_succ, List.set_cons_zero, List.set_cons_succ, Option.some.injEq, exists_eq_left', exists_eq_left, true_and, and_true, Nat.zero_le, List.zip_cons_cons, List.zip_nil_right, List.foldl_cons, List.foldl_nil, o_get hd get_great]
    obtain ⟨gs, hg⟩ := s.g_
    have hgl : g < S.n := Nat.lt_of_lt_of_le s.gl s.ln
    rw [o_neNil (lo := 0) (xs := gs.map Vl.int) (by rw [push_lt hgl]; exact hg) dat_ints push_same]
    refine ⟨_, rfl, ?_⟩
    have sp : St lo d g c T (S.push (.lst [])) := s.gr Gr.push
    have hdp : (S.push (.lst [])).at_ d = .dic false (stD g c r0 t) := (push_lt (Nat.lt_of_lt_of_le s.dl s.ln)).trans hd
    have hgp : (S.push (.lst [])).at_ g = .lst (gs.map Vl.int) := (push_lt hgl).trans hg
    cases gs with
    | nil =>
      simp only [List.map_nil, List.isEmpty_nil, Bool.not_true, Bool.false_eq_true, if_false]
      refine wpe_mono (blended_w sp hT) ?_ (fun _ _ _ _ z => z.elim)
      rintro _ S1 ⟨i, rfl, s1, g1, _⟩
      obtain ⟨r1, t1, hd1, h3, h4⟩ := s1.d_
      simp only [set_key hd1, put_rest]
      have z := tail _ (s1.setD (r := i) h3 h4) ((Gr.push.trans g1).set_low s1.dl)
      simp only [w_lst, w_tup, s_aug, w_caught, w_slot, w_c, w_nil, w_cons, w_bin, w_bi, w_tst, w_not, w_and, w_or, w_ite, w_andV, w_orV, w_call, w_callK, w_met, w_ok, wo_some, wo_if, w_if, s_seq, s_if, s_ret, s_exp, s_skip, s_cont, s_break, s_raise, s_set, s_par, startE, List.map_cons, List.map_nil, List.length_cons, List.length_nil, List.replicate, List.cons_append, List.nil_append, List.getElem?_cons_zero, List.getElem?_cons_succ, List.set_cons_zero, List.set_cons_succ, Option.some.injEq, exists_eq_left', exists_eq_left, true_and, and_true, Nat.zero_le, List.zip_cons_cons, List.zip_nil_right, List.foldl_cons, List.foldl_nil, s_key] at z
      exact z
    | cons x xs =>
      simp only [List.map_cons, List.isEmpty_cons, Bool.not_false, if_true, o_get hdp get_great, o_tyl hgp, true_and]
      rw [o_pop0 hgp]
      have s1 := sp.setG (gs := xs)
      obtain ⟨r1, t1, hd1, h3, h4⟩ := s1.d_
      simp only [set_key hd1, put_rest]
      have z := tail _ (s1.setD (r := x) h3 (by omega)) ((Gr.push.set_low s.gl).set_low s.dl)
      simp only [w_lst, w_tup, s_aug, w_caught, w_slot, w_c, w_nil, w_cons, w_bin, w_bi, w_tst, w_not, w_and, w_or, w_ite, w_andV, w_orV, w_call, w_callK, w_met, w_ok, wo_some, wo_if, w_if, s_seq, s_if, s_ret, s_exp, s_skip, s_cont, s_break, s_raise, s_set, s_par, startE, List.map_cons, List.map_nil, List.length_cons, List.length_nil, List.replicate, List.cons_append, List.nil_append, List.getElem?_cons_zero, List.getElem?_cons_succ, List.set_cons_zero, List.set_cons_succ, Option.some.injEq, exists_eq_left', exists_eq_left, true_and, and_true, Nat.zero_le, List.zip_cons_cons, List.zip_nil_right, List.foldl_cons, List.foldl_nil, s_key] at z
      exact z
  · rw [Bool.not_eq_true] at hz
    rw [hz]
    simp only [Bool.false_eq_true, if_false]
    have z := tail S (s.mono (Nat.le_succ _)) Gr.refl
    simp only [w_lst, w_tup, s_aug, w_caught, w_slot, w_c, w_nil, w_cons, w_bin, w_bi, w_tst, w_not, w_and, w_or, w_ite, w_andV, w_orV, w_call, w_callK, w_met, w_ok, wo_some, wo_if, w_if, s_seq, s_if, s_ret, s_exp, s_skip, s_cont, s_break, s_raise, s_set, s_par, startE, List.map_cons, List.map_nil, List.length_cons, List.length_nil, List.replicate, List.cons_append, List.nil_append, List.getElem?_cons_zero, List.getElem?_cons_succ, List.set_cons_zero, List.set_cons_succ, Option.some.injEq, exists_eq_left', exists_eq_left, true_and, and_true, Nat.zero_le, List.zip_cons_cons, List.zip_nil_right, List.foldl_cons, List.foldl_nil, s_key, o_get hd get_rest] at z ⊢
    exact z
/-! ### picks, kinds drawn -/
theorem pick_w {n lo d g c T : Nat} {S : Sto} {r : Nat} {xs : List Vl} (s : St lo d g c T S) (hT : T < bigT) (hr : S.at_ r = .lst xs) (hl : lo ≤ r) (hn : r < S.n) (h1 : xs ≠ []) (h2 : xs.length < 1000000) :
    wpe ((lev (n + 3)).1 16 [.ref d, .ref r] S) noE fun v S' => v ∈ xs ∧ St lo d g c (T + 1) S' ∧ Gr lo S S' := by
  rw [lv__law_pick]
  refine w_run rfl ?_
  unfold b__law_pick
  simp only [w_lst, w_tup, s_aug, w_caught, w_slot, w_c, w_nil, w_cons, w_bin, w_bi, w_tst, w_not, w_and, w_or, w_ite, w_andV, w_orV, w_call, w_callK, w_met, w_ok, wo_some, wo_if, w_if, s_seq, s_if, s_ret, s_exp, s_skip, s_cont, s_break, s_raise, s_set, s_par, startE, List.map_cons, List.map_nil, List.length_cons, List.length_nil, List.replicate, List.cons_append, List.nil_append, List.getElem?_cons_zero, List.getElem?_cons_succ, List.set_cons_zero, List.set_cons_succ, Option.some.injEq, exists_eq_left', exists_eq_left, true_and, and_true, Nat.zero_le, List.zip_cons_cons, List.zip_nil_right, List.foldl_cons, List.foldl_nil, o_lenl hr]
  have hpos : 0 < xs.length := List.length_pos_iff.mpr h1
  refine wpe_mono (draw_w s hT (by omega) (by omega)) ?_ (fun _ _ _ _ z => z.elim)
  rintro _ S1 ⟨k, rfl, hk, s1, g1⟩
  have hr1 : S1.at_ r = .lst xs := (g1.at_ _ hl hn).trans hr
  have hk : k < xs.length := by exact_mod_cast hk
  rw [o_atl (getR_l hr1) (List.getElem?_eq_getElem hk) (by omega) (by unfold getD; rw [hr1])]
  exact ⟨List.getElem_mem _, s1, g1⟩
theorem same_w {n : Nat} {S : Sto} {v : Vl} {d : PyData} (h : toD S v = some d) (c : d.showable = true ∧ d.shown.length ≤ sizeLine ∧ d.depth ≤ 190 ∧ d.hasDict = false) : wpe ((lev (n + 1)).1 18 [v, v] S) noE fun r S' => r = .bl true ∧ S' = S := by
  rw [lv__law_oh_same]
  refine w_run rfl ?_
  unfold b__law_oh_same
  simp only [w_lst, w_tup, s_aug, w_caught, w_slot, w_c, w_nil, w_cons, w_bin, w_bi, w_tst, w_not, w_and, w_or, w_ite, w_andV, w_orV, w_call, w_callK, w_met, w_ok, wo_some, wo_if, w_if, s_seq, s_if, s_ret, s_exp, s_skip, s_cont, s_break, s_raise, s_set, s_par, startE, List.map_cons, List.map_nil, List.length_cons, List.length_nil, List.replicate, List.cons_append, List.nil_append, List.getElem?_cons_zero, List.getElem?_cons_succ, List.set_cons_zero, List.set_cons_succ, Option.some.injEq, exists_eq_left', exists_eq_left, true_and, and_true, Nat.zero_le, List.zip_cons_cons, List.zip_nil_right, List.foldl_cons, List.foldl_nil, o_repr h c, o_strs]
  simp
theorem begun_w {n : Nat} {ns : List Int} (hl : ns.length ≤ 63) : wpe ((lev (n + 1)).1 13 [.ref 0] (S0 ns)) noE fun r S' => r = .ref 2 ∧ St 4 2 1 3 0 S' ∧ S'.at_ 0 = .ro (ns.map Vl.int) := by
  rw [lv__law_begun]
  refine w_run rfl ?_
  unfold b__law_begun
  simp only [w_lst, w_tup, s_aug, w_caught, w_slot, w_c, w_nil, w_cons, w_bin, w_bi, w_tst, w_not, w_and, w_or, w_ite, w_andV, w_orV, w_call, w_callK, w_met, w_ok, wo_some, wo_if, w_if, s_seq, s_if, s_ret, s_exp, s_skip, s_cont, s_break, s_raise, s_set, s_par, startE, List.map_cons, List.map_nil, List.length_cons, List.length_nil, List.replicate, List.cons_append, List.nil_append, List.getElem?_cons_zero, List.getElem?_cons_succ, List.set_cons_zero, List.set_cons_succ, Option.some.injEq, exists_eq_left', exists_eq_left, true_and, and_true, Nat.zero_le, List.zip_cons_cons, List.zip_nil_right, List.foldl_cons, List.foldl_nil]
  refine w_lc ?_
  simp only [w_it, w_lst, w_tup, s_aug, w_caught, w_slot, w_c, w_nil, w_cons, w_bin, w_bi, w_tst, w_not, w_and, w_or, w_ite, w_andV, w_orV, w_call, w_callK, w_met, w_ok, wo_some, wo_if, w_if, s_seq, s_if, s_ret, s_exp, s_skip, s_cont, s_break, s_raise, s_set, s_par, startE, List.map_cons, List.map_nil, List.length_cons, List.length_nil, List.replicate, List.cons_append, List.nil_append, List.getElem?_cons_zero, List.getElem?_cons_succ, List.set_cons_zero, List.set_cons_succ, Option.some.injEq, exists_eq_left', exists_eq_left, true_and, and_true, Nat.zero_le, List.zip_cons_cons, List.zip_nil_right, List.foldl_cons, List.foldl_nil]
  refine .inr (.inl ⟨0, ns.map Vl.int, rfl, rfl, ns.map Vl.int, fun i acc S2 => (∃ gs : List Int, acc = gs.map Vl.int ∧ gs.length ≤ i) ∧ S2.at_ 1 = .lst acc ∧ S2.n = 2 ∧ S2.at_ 0 = .ro (ns.map Vl.int), ⟨⟨[], rfl, Nat.le_refl _⟩, push_same, rfl, rfl⟩, fun i acc S2 _ h => nxL_at (getR_r h.2.2.2), ?_, ?_⟩)
  · rintro i x acc S2 hx ⟨⟨gs, rfl, hg⟩, h1, h2, h3⟩
    have hi : i < ns.length := by
      rw [List.getElem?_eq_some_iff] at hx; simpa using hx.1
    rw [List.getElem?_map, List.getElem?_eq_getElem hi] at hx
    cases hx
    refine ⟨_, rfl, ?_⟩
    simp only [w_lst, w_tup, s_aug, w_caught, w_slot, w_c, w_nil, w_cons, w_bin, w_bi, w_tst, w_not, w_and, w_or, w_ite, w_andV, w_orV, w_call, w_callK, w_met, w_ok, wo_some, wo_if, w_if, s_seq, s_if, s_ret, s_exp, s_skip, s_cont, s_break, s_raise, s_set, s_par, startE, List.map_cons, List.map_nil, List.length_cons, List.length_nil, List.replicate, List.cons_append, List.nil_append, List.getElem?_cons_zero, List.getElem?_cons_succ, List.set_cons_zero, List.set_cons_succ, Option.some.injEq, exists_eq_left', exists_eq_left, true_and, and_true, Nat.zero_le, List.zip_cons_cons, List.zip_nil_right, List.foldl_cons, List.foldl_nil, wipeE, o_abs]
    rw [o_pow ⟨by decide, by decide, by decide⟩]
    simp only [o_ge]
    refine ⟨_, rfl, ?_⟩
    by_cases hc : (10 : Int) ^ (18 : Int).toNat ≤ (if ns[i] < 0 then -ns[i] else ns[i])
    · rw [decide_eq_true hc]
      simp only [if_true]
      rw [o_pow ⟨by decide, by decide, by decide⟩]
      simp only [o_sub]
      refine ⟨h1, ?_, ⟨gs ++ [_], by rw [List.map_append]; rfl, by rw [List.length_append]; simp only [List.length_cons, List.length_nil]; omega⟩, set_same, h2, (set_ne (by show (0 : Nat) ≠ 1; decide)).trans h3⟩
      rw [List.length_map, show sizeLine = 16777216 from rfl]; omega
    · rw [decide_eq_false hc]
      simp only [Bool.false_eq_true, if_false]
      exact ⟨⟨gs, rfl, by omega⟩, h1, h2, h3⟩
  · rintro acc S2 ⟨⟨gs, rfl, hg⟩, h1, h2, h3⟩
    refine w_disp ?_
    simp only [w_pairs, w_pairs0, w_lst, w_tup, s_aug, w_caught, w_slot, w_c, w_nil, w_cons, w_bin, w_bi, w_tst, w_not, w_and, w_or, w_ite, w_andV, w_orV, w_call, w_callK, w_met, w_ok, wo_some, wo_if, w_if, s_seq, s_if, s_ret, s_exp, s_skip, s_cont, s_break, s_raise, s_set, s_par, startE, List.map_cons, List.map_nil, List.length_cons, List.length_nil, List.replicate, List.cons_append, List.nil_append, List.getElem?_cons_zero, List.getElem?_cons_succ, List.set_cons_zero, List.set_cons_succ, Option.some.injEq, exists_eq_left', exists_eq_left, true_and, and_true, Nat.zero_le, List.zip_cons_cons, List.zip_nil_right, List.foldl_cons, List.foldl_nil]
    refine w_lcmap ?_
    simp only [w_it, w_lst, w_tup, s_aug, w_caught, w_slot, w_c, w_nil, w_cons, w_bin, w_bi, w_tst, w_not, w_and, w_or, w_ite, w_andV, w_orV, w_call, w_callK, w_met, w_ok, wo_some, wo_if, w_if, s_seq, s_if, s_ret, s_exp, s_skip, s_cont, s_break, s_raise, s_set, s_par, startE, List.map_cons, List.map_nil, List.length_cons, List.length_nil, List.replicate, List.cons_append, List.nil_append, List.getElem?_cons_zero, List.getElem?_cons_succ, List.set_cons_zero, List.set_cons_succ, Option.some.injEq, exists_eq_left', exists_eq_left, true_and, and_true, Nat.zero_le, List.zip_cons_cons, List.zip_nil_right, List.foldl_cons, List.foldl_nil]
    have hn : (S2.push (.dic false [])).n = 3 := by show S2.n + 1 = 3; omega
    have a0 : (S2.push (.dic false [])).at_ 0 = .ro (ns.map Vl.int) := (push_lt (by omega)).trans h3
    refine .inr (.inl ⟨0, ns.map Vl.int, rfl, getR_r a0, ns.map Vl.int, ns.map fun z => .int (if z < 0 then -z else z), by rw [List.length_map, List.length_map], by rw [List.length_map]; omega, fun i S3 _ g => nxL_at (getR_r ((g.at_ 0 (Nat.zero_le _) (by omega)).trans a0)), ?_, ?_⟩)
    · rintro i x y S3 hx hy g
      rw [List.getElem?_map] at hx hy
      cases e : ns[i]? with
      | none => rw [e] at hx; cases hx
      | some z =>
        rw [e] at hx hy; cases hx; cases hy
        refine ⟨_, rfl, ?_⟩
        simp only [w_true, true_and, w_lst, w_tup, s_aug, w_caught, w_slot, w_c, w_nil, w_cons, w_bin, w_bi, w_tst, w_not, w_and, w_or, w_ite, w_andV, w_orV, w_call, w_callK, w_met, w_ok, wo_some, wo_if, w_if, s_seq, s_if, s_ret, s_exp, s_skip, s_cont, s_break, s_raise, s_set, s_par, startE, List.map_cons, List.map_nil, List.length_cons, List.length_nil, List.replicate, List.cons_append, List.nil_append, List.getElem?_cons_zero, List.getElem?_cons_succ, List.set_cons_zero, List.set_cons_succ, Option.some.injEq, exists_eq_left', exists_eq_left, true_and, and_true, Nat.zero_le, List.zip_cons_cons, List.zip_nil_right, List.foldl_cons, List.foldl_nil, wipeE, o_abs]
        first | exact ⟨Gr.refl, Gr.refl⟩ | exact Gr.refl
    · intro S3 g hn3 hs3
      have hdd : (S2.push (.dic false [])).at_ S2.n = .dic false [] := push_same
      have e1 : S3.at_ S2.n = .dic false [] := (g.at_ _ (Nat.zero_le _) (Nat.lt_succ_self _)).trans hdd
      refine ⟨e1, by decide, rfl, ?_, ?_, ?_⟩
      · rw [h2]
      · rw [stD_merge, h2, hn]
        rw [hn] at hs3 hn3
        have g1 : S3.at_ 1 = .lst (gs.map Vl.int) := (g.at_ 1 (Nat.zero_le _) (by omega)).trans ((push_lt (by omega)).trans h1)
        exact ⟨⟨0, 0, set_same, by decide, by decide⟩, ⟨gs, (set_ne (by decide)).trans g1⟩, ⟨ns.map fun z => if z < 0 then -z else z, by rw [set_ne (by decide), hs3, List.map_map]; rfl⟩, by decide, by decide, by decide, by decide, by decide, by decide, by show 4 ≤ S3.n; omega⟩
      · rw [h2, set_ne (by decide)]
        exact (g.at_ 0 (Nat.zero_le _) (by omega)).trans a0
theorem s_cut {a b : MS} {ρ : En} {S : Sto} {D : End_} (Mid : En → Sto → Prop) (h1 : wps (a ρ S) ⟨Mid, D.bk, D.ct, D.rt, D.ex⟩) (h2 : ∀ ρ1 S1, Mid ρ1 S1 → wps (b ρ1 S1) D) : wps (sSeq a b ρ S) D := by
  rw [s_seq]
  exact wps_mono h1 h2 (fun _ _ z => z) (fun _ _ z => z) (fun _ _ z => z) (fun _ _ _ _ z => z)
theorem isKd_none {v : Vl} (h : kdE v = none) : isKd v = false := good_bad (m := 0) (st := []) h
def chain : Nat → Kd
  | 0 => .text
  | n + 1 => .to .text (chain n)
theorem chain_e : ∀ n, (chain n).e = n + 1
  | 0 => rfl
  | n + 1 => by show 1 + (chain n).e = _; rw [chain_e n]; omega
theorem ok_from : ("from" : Str).cps.all (· < 0x110000) = true := by decide +kernel
theorem ne_ft : ("from" : Str) ≠ "to" := by decide +kernel
end G

set_option linter.all false
set_option maxRecDepth 100000
set_option maxHeartbeats 4000000
namespace G
open PySem PySem.Spec PyProof.Rows L2 Q

/-! signs and parts of a kind, plainly -/
def Kd.sg : Kd → Bool → List Bool
  | .text, q => [q]
  | .to a b, q => a.sg (!q) ++ b.sg q
theorem sg_len : ∀ (K : Kd) (q : Bool), (K.sg q).length = K.e
  | .text, _ => rfl
  | .to a b, q => by show (a.sg (!q) ++ b.sg q).length = a.e + b.e; rw [List.length_append, sg_len a, sg_len b]
theorem sg_not : ∀ (K : Kd) (q : Bool), K.sg (!q) = (K.sg q).map (!·)
  | .text, _ => rfl
  | .to a b, q => by show a.sg (!!q) ++ b.sg (!q) = (a.sg (!q) ++ b.sg q).map (!·); rw [List.map_append, ← sg_not a, ← sg_not b]
/-- the sign of the result -/
theorem sg_last : ∀ (K : Kd) (q : Bool), (K.sg q)[K.e - 1]? = some q
  | .text, _ => rfl
  | .to a b, q => by
    show (a.sg (!q) ++ b.sg q)[a.e + b.e - 1]? = some q
    have h1 := e_pos b
    rw [List.getElem?_append_right (by rw [sg_len]; omega), sg_len, show a.e + b.e - 1 - a.e = b.e - 1 by omega]
    exact sg_last b q
def Kd.res : Kd → Nat → List Nat
  | .text, _ => []
  | .to a b, f => (f + a.e - 1) :: b.res (f + a.e)
def Kd.bod : Kd → Nat → List (Nat × List Nat)
  | .text, _ => []
  | .to a b, f => (a.bod f ++ [(f + a.e - 1, a.res f)]) ++ b.bod (f + a.e)
def Kd.pl (K : Kd) (f : Nat) : List (Nat × List Nat) := K.bod f ++ [(f + K.e - 1, K.res f)]
theorem bod_keys : ∀ (K : Kd) (f : Nat), (K.bod f).map (·.1) ++ [f + K.e - 1] = List.range' f K.e
  | .text, f => rfl
  | .to a b, f => by
    show ((a.bod f ++ [(f + a.e - 1, a.res f)]) ++ b.bod (f + a.e)).map (·.1) ++ [f + (a.e + b.e) - 1] = List.range' f (a.e + b.e)
    rw [List.map_append, List.map_append, List.map_cons, List.map_nil, bod_keys a f, List.append_assoc, show f + (a.e + b.e) - 1 = (f + a.e) + b.e - 1 by omega, bod_keys b (f + a.e), List.range'_append_1]
theorem pl_keys (K : Kd) (f : Nat) : (K.pl f).map (·.1) = List.range' f K.e := by
  unfold Kd.pl
  rw [List.map_append]
  exact bod_keys K f
theorem pl_len (K : Kd) (f : Nat) : (K.pl f).length = K.e := by
  have := congrArg List.length (pl_keys K f)
  rwa [List.length_map, List.length_range'] at this
theorem pl_to (a b : Kd) (f : Nat) : (Kd.to a b).bod f = a.pl f ++ b.bod (f + a.e) := rfl
/-! by arguments -/
def sumE (l : List Kd) : Nat := (l.map Kd.e).sum
def bodL : List Kd → Nat → List (Nat × List Nat)
  | [], _ => []
  | a :: r, f => a.pl f ++ bodL r (f + a.e)
def resL : List Kd → Nat → List Nat
  | [], _ => []
  | a :: r, f => (f + a.e - 1) :: resL r (f + a.e)
theorem bod_args : ∀ (K : Kd) (f : Nat), K.bod f = bodL K.args f
  | .text, _ => rfl
  | .to a b, f => by show a.pl f ++ b.bod (f + a.e) = a.pl f ++ bodL b.args (f + a.e); rw [bod_args b]
theorem res_args : ∀ (K : Kd) (f : Nat), K.res f = resL K.args f
  | .text, _ => rfl
  | .to a b, f => by show _ :: b.res (f + a.e) = _ :: resL b.args (f + a.e); rw [res_args b]
theorem bodL_app : ∀ (l : List Kd) (a : Kd) (f : Nat), bodL (l ++ [a]) f = bodL l f ++ a.pl (f + sumE l)
  | [], a, f => by show a.pl f ++ [] = [] ++ a.pl (f + 0); simp
  | x :: l, a, f => by
    show x.pl f ++ bodL (l ++ [a]) (f + x.e) = (x.pl f ++ bodL l (f + x.e)) ++ a.pl (f + (x.e + sumE l))
    rw [bodL_app l a, List.append_assoc, Nat.add_assoc]
theorem resL_app : ∀ (l : List Kd) (a : Kd) (f : Nat), resL (l ++ [a]) f = resL l f ++ [f + sumE l + a.e - 1]
  | [], a, f => by show [f + a.e - 1] = [f + 0 + a.e - 1]; rfl
  | x :: l, a, f => by
    show (f + x.e - 1) :: resL (l ++ [a]) (f + x.e) = (f + x.e - 1) :: resL l (f + x.e) ++ [f + (x.e + sumE l) + a.e - 1]
    rw [resL_app l a, List.cons_append, Nat.add_assoc f x.e]
theorem sumE_app (l : List Kd) (a : Kd) : sumE (l ++ [a]) = sumE l + a.e := by simp [sumE]
theorem bodL_keys : ∀ (l : List Kd) (f : Nat), (bodL l f).map (·.1) = List.range' f (sumE l)
  | [], _ => rfl
  | a :: l, f => by
    show (a.pl f ++ bodL l (f + a.e)).map (·.1) = List.range' f (a.e + sumE l)
    rw [List.map_append, pl_keys, bodL_keys, List.range'_append_1]
theorem e_sum (K : Kd) : K.e = 1 + sumE K.args := e_args K
/-! each end but the result is a part of one -/
def allP (l : List (Nat × List Nat)) : List Nat := l.flatMap (·.2)
theorem allP_app (l m : List (Nat × List Nat)) : allP (l ++ m) = allP l ++ allP m := by simp [allP]
theorem cnt_bod : ∀ (K : Kd) (f i : Nat), (allP (K.bod f)).count i + (K.res f).count i = if f ≤ i ∧ i < f + K.e - 1 then 1 else 0
  | .text, f, i => by
    show 0 + 0 = _
    rw [if_neg (by show ¬ (f ≤ i ∧ i < f + 1 - 1); omega)]
  | .to a b, f, i => by
    have ha := cnt_bod a f i
    have hb := cnt_bod b (f + a.e) i
    have e1 := e_pos a
    have e2 := e_pos b
    show (allP ((a.bod f ++ [(f + a.e - 1, a.res f)]) ++ b.bod (f + a.e))).count i + ((f + a.e - 1) :: b.res (f + a.e)).count i = if f ≤ i ∧ i < f + (a.e + b.e) - 1 then 1 else 0
    rw [allP_app, allP_app, List.count_append, List.count_append, List.count_cons]
    have e3 : (allP [(f + a.e - 1, a.res f)]) = a.res f := by simp [allP]
    rw [e3]
    have e4 : (if (f + a.e - 1 == i) = true then 1 else 0) = if i = f + a.e - 1 then 1 else 0 := by
      by_cases h : i = f + a.e - 1
      · rw [if_pos h, if_pos (by rw [h]; exact beq_self_eq_true _)]
      · rw [if_neg h, if_neg (by intro z; exact h (beq_iff_eq.mp z).symm)]
    rw [e4]
    split at ha <;> split at hb <;> split <;> split <;> omega
theorem cnt_pl (K : Kd) (f i : Nat) : (allP (K.pl f)).count i = if f ≤ i ∧ i < f + K.e - 1 then 1 else 0 := by
  rw [← cnt_bod K f i]
  unfold Kd.pl
  rw [allP_app, List.count_append]
  simp [allP]
/-- those of which i is a part -/
def own (l : List (Nat × List Nat)) (i : Nat) : List Nat := (l.filter fun p => p.2.contains i).map (·.1)
theorem own_cnt : ∀ (l : List (Nat × List Nat)) (i : Nat), (own l i).length ≤ (allP l).count i ∧ ((own l i).length = 0 → (allP l).count i = 0)
  | [], _ => ⟨Nat.le_refl _, fun _ => rfl⟩
  | p :: l, i => by
    have ih := own_cnt l i
    have e : allP (p :: l) = p.2 ++ allP l := by simp [allP]
    rw [e, List.count_append]
    by_cases h : p.2.contains i = true
    · have e2 : own (p :: l) i = p.1 :: own l i := by simp only [own, List.filter_cons, h, if_true, List.map_cons]
      have h3 : 0 < p.2.count i := List.count_pos_iff.mpr (by simpa using h)
      rw [e2, List.length_cons]
      exact ⟨by omega, fun z => by omega⟩
    · have e2 : own (p :: l) i = own l i := by simp only [own, List.filter_cons, h, if_false, Bool.false_eq_true]
      have h3 : p.2.count i = 0 := List.count_eq_zero.mpr (by simpa using h)
      rw [e2, h3, Nat.zero_add]
      exact ih
theorem own_one {K : Kd} {i : Nat} (h : i < K.e - 1) : ∃ j, own (K.pl 0) i = [j] := by
  have h1 := own_cnt (K.pl 0) i
  rw [cnt_pl, if_pos ⟨Nat.zero_le _, by omega⟩] at h1
  cases e : own (K.pl 0) i with
  | nil => rw [e] at h1; exact absurd (h1.2 rfl) (by decide)
  | cons j r =>
    cases r with
    | nil => exact ⟨j, rfl⟩
    | cons _ _ => rw [e] at h1; simp only [List.length_cons] at h1; omega
theorem own_none {K : Kd} {i : Nat} (h : i = K.e - 1) : own (K.pl 0) i = [] := by
  have h1 := (own_cnt (K.pl 0) i).1
  rw [cnt_pl, if_neg (by omega)] at h1
  exact List.length_eq_zero_iff.mp (by omega)
/-! parts have the other sign -/
theorem res_sg : ∀ (K : Kd) (f : Nat) (q : Bool), ∀ p ∈ K.res f, f ≤ p ∧ p < f + K.e - 1 ∧ (K.sg q)[p - f]? = some (!q)
  | .text, _, _, p, h => by cases h
  | .to a b, f, q, p, h => by
    have e1 := e_pos a
    have e2 := e_pos b
    show f ≤ p ∧ p < f + (a.e + b.e) - 1 ∧ (a.sg (!q) ++ b.sg q)[p - f]? = some (!q)
    rcases List.mem_cons.mp h with rfl | h
    · refine ⟨by omega, by omega, ?_⟩
      rw [List.getElem?_append_left (by rw [sg_len]; omega), show f + a.e - 1 - f = a.e - 1 by omega]
      exact sg_last a _
    · obtain ⟨h1, h2, h3⟩ := res_sg b (f + a.e) q p h
      refine ⟨by omega, by omega, ?_⟩
      rw [List.getElem?_append_right (by rw [sg_len]; omega), sg_len, show p - f - a.e = p - (f + a.e) by omega]
      exact h3
theorem bod_sg : ∀ (K : Kd) (f : Nat) (q : Bool), ∀ x ∈ K.bod f, f ≤ x.1 ∧ x.1 < f + K.e - 1 ∧ ∃ s, (K.sg q)[x.1 - f]? = some s ∧ ∀ p ∈ x.2, f ≤ p ∧ p < f + K.e - 1 ∧ (K.sg q)[p - f]? = some (!s)
  | .text, _, _, x, h => by cases h
  | .to a b, f, q, x, h => by
    have e1 := e_pos a
    have e2 := e_pos b
    have lf : ∀ p, p < a.e → (a.sg (!q) ++ b.sg q)[p]? = (a.sg (!q))[p]? := fun p hp => List.getElem?_append_left (by rw [sg_len]; exact hp)
    have rt : ∀ p, f + a.e ≤ p → (a.sg (!q) ++ b.sg q)[p - f]? = (b.sg q)[p - (f + a.e)]? := fun p hp => by
      rw [List.getElem?_append_right (by rw [sg_len]; omega), sg_len, show p - f - a.e = p - (f + a.e) by omega]
    show f ≤ x.1 ∧ x.1 < f + (a.e + b.e) - 1 ∧ ∃ s, (a.sg (!q) ++ b.sg q)[x.1 - f]? = some s ∧ ∀ p ∈ x.2, f ≤ p ∧ p < f + (a.e + b.e) - 1 ∧ (a.sg (!q) ++ b.sg q)[p - f]? = some (!s)
    rcases List.mem_append.mp (show x ∈ (a.bod f ++ [(f + a.e - 1, a.res f)]) ++ b.bod (f + a.e) from h) with h | h
    · rcases List.mem_append.mp h with h | h
      · obtain ⟨h1, h2, s, h3, h4⟩ := bod_sg a f (!q) x h
        refine ⟨h1, by omega, s, by rw [lf _ (by omega)]; exact h3, fun p hp => ?_⟩
        obtain ⟨k1, k2, k3⟩ := h4 p hp
        exact ⟨k1, by omega, by rw [lf _ (by omega)]; exact k3⟩
      · rw [List.mem_singleton.mp h]
        refine ⟨by show f ≤ f + a.e - 1; omega, by show f + a.e - 1 < _; omega, !q, ?_, fun p hp => ?_⟩
        · rw [lf _ (by show f + a.e - 1 - f < a.e; omega)]
          show (a.sg (!q))[f + a.e - 1 - f]? = _
          rw [show f + a.e - 1 - f = a.e - 1 by omega]
          exact sg_last a _
        · obtain ⟨k1, k2, k3⟩ := res_sg a f (!q) p hp
          exact ⟨k1, by omega, by rw [lf _ (by omega)]; exact k3⟩
    · obtain ⟨h1, h2, s, h3, h4⟩ := bod_sg b (f + a.e) q x h
      refine ⟨by omega, by omega, s, by rw [rt _ h1]; exact h3, fun p hp => ?_⟩
      obtain ⟨k1, k2, k3⟩ := h4 p hp
      exact ⟨by omega, by omega, by rw [rt _ k1]; exact k3⟩
theorem pl_sg {K : Kd} {x : Nat × List Nat} (h : x ∈ K.pl 0) : x.1 < K.e ∧ ∃ s, (K.sg true)[x.1]? = some s ∧ ∀ p ∈ x.2, p < K.e ∧ (K.sg true)[p]? = some (!s) := by
  have e1 := e_pos K
  rcases List.mem_append.mp h with h | h
  · obtain ⟨h1, h2, s, h3, h4⟩ := bod_sg K 0 true x h
    refine ⟨by omega, s, h3, fun p hp => ?_⟩
    obtain ⟨k1, k2, k3⟩ := h4 p hp
    exact ⟨by omega, k3⟩
  · rw [List.mem_singleton.mp h]
    refine ⟨by show 0 + K.e - 1 < _; omega, true, ?_, fun p hp => ?_⟩
    · show (K.sg true)[0 + K.e - 1]? = _
      rw [Nat.zero_add]
      exact sg_last K true
    · obtain ⟨k1, k2, k3⟩ := res_sg K 0 true p hp
      exact ⟨by omega, k3⟩
theorem pl_at {K : Kd} {i : Nat} (h : i < K.e) : ∃ ps, (K.pl 0)[i]? = some (i, ps) ∧ (i, ps) ∈ K.pl 0 := by
  have hl : i < (K.pl 0).length := by rw [pl_len]; exact h
  have e := List.getElem?_eq_getElem hl
  have k := congrArg (·[i]?) (pl_keys K 0)
  simp only [List.getElem?_map, e, Option.map_some] at k
  rw [List.getElem?_range' h] at k
  have k := Option.some.inj k
  refine ⟨(K.pl 0)[i].2, ?_, ?_⟩
  · rw [e]; congr 1; exact Prod.ext (by rw [k]; simp) rfl
  · have := List.getElem_mem hl
    rw [show (i, (K.pl 0)[i].2) = (K.pl 0)[i] from Prod.ext (by rw [k]; simp) rfl]
    exact this
end G

set_option linter.all false
set_option maxRecDepth 100000
set_option maxHeartbeats 4000000
namespace G
open PySem PySem.Spec PyProof.Rows L2 Q

theorem lenL {n : Nat} (h : n ≤ 1000000) : n ≤ sizeLine := by rw [show sizeLine = 16777216 from rfl]; omega
theorem signs_of_w : ∀ (K : Kd) (q : Bool) (S : Sto) (m : Nat), K.e + 1 ≤ m → K.e ≤ 1000 → wpe ((lev m).1 6 [K.v, .bl q] S) noE fun r S' => ∃ n, r = .ref n ∧ S.n ≤ n ∧ n < S'.n ∧ S'.at_ n = .lst ((K.sg q).map Vl.bl) ∧ Gr 0 S S'
  | .text, q, S, m, hm, hK => by
    obtain ⟨m, rfl⟩ : ∃ m', m = m' + 1 := ⟨m - 1, by omega⟩
    rw [lv_signs_of]
    refine w_run rfl ?_
    unfold b_signs_of
    simp only [w_lst, w_tup, s_aug, w_caught, w_slot, w_c, w_nil, w_cons, w_bin, w_bi, w_tst, w_not, w_and, w_or, w_ite, w_andV, w_orV, w_call, w_callK, w_met, w_ok, wo_some, wo_if, w_if, s_seq, s_if, s_ret, s_exp, s_skip, s_cont, s_break, s_raise, s_set, s_par, startE, List.map_cons, List.map_nil, List.length_cons, List.length_nil, List.replicate, List.cons_append, List.nil_append, List.getElem?_cons_zero, List.getElem?_cons_succ, List.set_cons_zero, List.set_cons_succ, Option.some.injEq, exists_eq_left', exists_eq_left, true_and, and_true, Nat.zero_le, List.zip_cons_cons, List.zip_nil_right, List.foldl_cons, List.foldl_nil, Kd.v, o_at0, o_strs, eq_xx]
    refine ⟨_, rfl, ?_⟩
    rw [if_pos (by decide)]
    exact ⟨by decide, S.n, rfl, Nat.le_refl _, Nat.lt_succ_self _, push_same, Gr.push⟩
  | .to a b, q, S, m, hm, hK => by
    have h1 := e_pos a
    have h2 := e_pos b
    have hm : a.e + b.e + 1 ≤ m := hm
    have hK : a.e + b.e ≤ 1000 := hK
    obtain ⟨m, rfl⟩ : ∃ m', m = m' + 1 := ⟨m - 1, by omega⟩
    rw [lv_signs_of]
    refine w_run rfl ?_
    unfold b_signs_of
    simp only [w_lst, w_tup, s_aug, w_caught, w_slot, w_c, w_nil, w_cons, w_bin, w_bi, w_tst, w_not, w_and, w_or, w_ite, w_andV, w_orV, w_call, w_callK, w_met, w_ok, wo_some, wo_if, w_if, s_seq, s_if, s_ret, s_exp, s_skip, s_cont, s_break, s_raise, s_set, s_par, startE, List.map_cons, List.map_nil, List.length_cons, List.length_nil, List.replicate, List.cons_append, List.nil_append, List.getElem?_cons_zero, List.getElem?_cons_succ, List.set_cons_zero, List.set_cons_succ, Option.some.injEq, exists_eq_left', exists_eq_left, true_and, and_true, Nat.zero_le, List.zip_cons_cons, List.zip_nil_right, List.foldl_cons, List.foldl_nil, Kd.v, o_at0, o_at1, o_at2, o_strs, ne_xt, w_notV]
    refine ⟨_, rfl, ?_⟩
    rw [if_neg (by decide)]
    refine ⟨q, rfl, ?_⟩
    refine wpe_mono (signs_of_w a (!q) S m (by omega) (by omega)) ?_ (fun _ _ _ _ z => z.elim)
    rintro _ S1 ⟨n1, rfl, k1, k2, k3, g1⟩
    refine wpe_mono (signs_of_w b q S1 m (by omega) (by omega)) ?_ (fun _ _ _ _ z => z.elim)
    rintro _ S2 ⟨n2, rfl, l1, l2, l3, g2⟩
    rw [o_addl ((g2.at_ _ (Nat.zero_le _) k2).trans k3) l3]
    refine ⟨?_, S2.n, rfl, Nat.le_trans g1.n g2.n, Nat.lt_succ_self _, ?_, (g1.trans g2).trans Gr.push⟩
    · rw [List.length_map, List.length_map, sg_len, sg_len]; exact lenL (by omega)
    · rw [push_same, ← List.map_append]; rfl
theorem hd_signs_w : ∀ (K : Kd) (S : Sto) (m : Nat), K.e + 1 ≤ m → K.e ≤ 1000 → wpe ((lev m).1 21 [K.v] S) noE fun r S' => ∃ n, r = .ref n ∧ S.n ≤ n ∧ n < S'.n ∧ S'.at_ n = .lst ((K.sg true).map Vl.bl) ∧ Gr 0 S S'
  | .text, S, m, hm, hK => by
    obtain ⟨m, rfl⟩ : ∃ m', m = m' + 1 := ⟨m - 1, by omega⟩
    rw [lv__law_hd_signs]
    refine w_run rfl ?_
    unfold b__law_hd_signs
    simp only [w_lst, w_tup, s_aug, w_caught, w_slot, w_c, w_nil, w_cons, w_bin, w_bi, w_tst, w_not, w_and, w_or, w_ite, w_andV, w_orV, w_call, w_callK, w_met, w_ok, wo_some, wo_if, w_if, s_seq, s_if, s_ret, s_exp, s_skip, s_cont, s_break, s_raise, s_set, s_par, startE, List.map_cons, List.map_nil, List.length_cons, List.length_nil, List.replicate, List.cons_append, List.nil_append, List.getElem?_cons_zero, List.getElem?_cons_succ, List.set_cons_zero, List.set_cons_succ, Option.some.injEq, exists_eq_left', exists_eq_left, true_and, and_true, Nat.zero_le, List.zip_cons_cons, List.zip_nil_right, List.foldl_cons, List.foldl_nil, Kd.v, o_at0, o_strs, eq_xx]
    refine ⟨_, rfl, ?_⟩
    rw [if_pos (by decide)]
    exact ⟨by decide, S.n, rfl, Nat.le_refl _, Nat.lt_succ_self _, push_same, Gr.push⟩
  | .to a b, S, m, hm, hK => by
    have h1 := e_pos a
    have h2 := e_pos b
    have hm : a.e + b.e + 1 ≤ m := hm
    have hK : a.e + b.e ≤ 1000 := hK
    obtain ⟨m, rfl⟩ : ∃ m', m = m' + 1 := ⟨m - 1, by omega⟩
    rw [lv__law_hd_signs]
    refine w_run rfl ?_
    unfold b__law_hd_signs
    simp only [w_lst, w_tup, s_aug, w_caught, w_slot, w_c, w_nil, w_cons, w_bin, w_bi, w_tst, w_not, w_and, w_or, w_ite, w_andV, w_orV, w_call, w_callK, w_met, w_ok, wo_some, wo_if, w_if, s_seq, s_if, s_ret, s_exp, s_skip, s_cont, s_break, s_raise, s_set, s_par, startE, List.map_cons, List.map_nil, List.length_cons, List.length_nil, List.replicate, List.cons_append, List.nil_append, List.getElem?_cons_zero, List.getElem?_cons_succ, List.set_cons_zero, List.set_cons_succ, Option.some.injEq, exists_eq_left', exists_eq_left, true_and, and_true, Nat.zero_le, List.zip_cons_cons, List.zip_nil_right, List.foldl_cons, List.foldl_nil, Kd.v, o_at0, o_at1, o_at2, o_strs, ne_xt, w_notV]
    refine ⟨_, rfl, ?_⟩
    rw [if_neg (by decide)]
    refine w_lcmap ?_
    simp only [w_it, w_lst, w_tup, s_aug, w_caught, w_slot, w_c, w_nil, w_cons, w_bin, w_bi, w_tst, w_not, w_and, w_or, w_ite, w_andV, w_orV, w_call, w_callK, w_met, w_ok, wo_some, wo_if, w_if, s_seq, s_if, s_ret, s_exp, s_skip, s_cont, s_break, s_raise, s_set, s_par, startE, List.map_cons, List.map_nil, List.length_cons, List.length_nil, List.replicate, List.cons_append, List.nil_append, List.getElem?_cons_zero, List.getElem?_cons_succ, List.set_cons_zero, List.set_cons_succ, Option.some.injEq, exists_eq_left', exists_eq_left, true_and, and_true, Nat.zero_le, List.zip_cons_cons, List.zip_nil_right, List.foldl_cons, List.foldl_nil, Kd.v, o_at1]
    refine wpe_mono (hd_signs_w a S m (by omega) (by omega)) ?_ (fun _ _ _ _ z => z.elim)
    rintro _ S1 ⟨n1, rfl, k1, k2, k3, g1⟩
    refine .inr (.inl ⟨n1, _, rfl, getR_l k3, (a.sg true).map Vl.bl, (a.sg false).map Vl.bl, by rw [List.length_map, List.length_map, sg_len, sg_len], by rw [List.length_map, sg_len]; omega, ?_, ?_, ?_⟩)
    · intro i S2 _ g
      exact nxL_at (getR_l ((g.at_ _ (Nat.zero_le _) k2).trans k3))
    · intro i x y S2 hx hy g
      rw [List.getElem?_map] at hx hy
      have e : a.sg false = (a.sg true).map (!·) := sg_not a true
      rw [e, List.getElem?_map] at hy
      cases ha : (a.sg true)[i]? with
      | none => rw [ha] at hx; cases hx
      | some s =>
        rw [ha] at hx hy; cases hx; cases hy
        refine ⟨_, rfl, ?_⟩
        simp only [w_true, true_and]
        refine ⟨Gr.refl, ?_⟩
        simp only [w_notV, w_slot, wipeE]
        exact ⟨_, rfl, s, rfl, rfl, Gr.refl⟩
    · intro S2 g2 hn hs
      refine wpe_mono (hd_signs_w b S2 m (by omega) (by omega)) ?_ (fun _ _ _ _ z => z.elim)
      rintro _ S3 ⟨n2, rfl, l1, l2, l3, g3⟩
      rw [o_addl ((g3.at_ _ (Nat.zero_le _) hn).trans hs) l3]
      refine ⟨?_, S3.n, rfl, Nat.le_trans (Nat.le_trans g1.n g2.n) g3.n, Nat.lt_succ_self _, ?_, ((g1.trans g2).trans g3).trans Gr.push⟩
      · rw [List.length_map, List.length_map, sg_len, sg_len]; exact lenL (by omega)
      · rw [push_same, ← List.map_append]; rfl
theorem signs_w {n : Nat} {S : Sto} {K : Kd} (h : K.e ≤ 60) (hn : K.e + 5 ≤ n) : wpe ((lev n).1 7 [K.v] S) noE fun r S' => r = .tup ((K.sg true).map Vl.bl) ∧ Gr 0 S S' := by
  obtain ⟨n, rfl⟩ : ∃ n', n = n' + 4 := ⟨n - 4, by have := e_pos K; omega⟩
  rw [lv_signs]
  refine w_run rfl ?_
  unfold b_signs
  simp only [w_lst, w_tup, s_aug, w_caught, w_slot, w_c, w_nil, w_cons, w_bin, w_bi, w_tst, w_not, w_and, w_or, w_ite, w_andV, w_orV, w_call, w_callK, w_met, w_ok, wo_some, wo_if, w_if, s_seq, s_if, s_ret, s_exp, s_skip, s_cont, s_break, s_raise, s_set, s_par, startE, List.map_cons, List.map_nil, List.length_cons, List.length_nil, List.replicate, List.cons_append, List.nil_append, List.getElem?_cons_zero, List.getElem?_cons_succ, List.set_cons_zero, List.set_cons_succ, Option.some.injEq, exists_eq_left', exists_eq_left, true_and, and_true, Nat.zero_le, List.zip_cons_cons, List.zip_nil_right, List.foldl_cons, List.foldl_nil]
  refine wpe_mono (need_kind_w (lo := 0) ⟨_, K.dat⟩) (fun r S1 z => ?_) (fun _ _ _ _ z => by rw [isKd_t h] at z; cases z.2)
  obtain ⟨_, g1⟩ := z
  unfold mCall
  simp only [w_bnd, w_lst, w_tup, s_aug, w_caught, w_slot, w_c, w_nil, w_cons, w_bin, w_bi, w_tst, w_not, w_and, w_or, w_ite, w_andV, w_orV, w_call, w_callK, w_met, w_ok, wo_some, wo_if, w_if, s_seq, s_if, s_ret, s_exp, s_skip, s_cont, s_break, s_raise, s_set, s_par, startE, List.map_cons, List.map_nil, List.length_cons, List.length_nil, List.replicate, List.cons_append, List.nil_append, List.getElem?_cons_zero, List.getElem?_cons_succ, List.set_cons_zero, List.set_cons_succ, Option.some.injEq, exists_eq_left', exists_eq_left, true_and, and_true, Nat.zero_le, List.zip_cons_cons, List.zip_nil_right, List.foldl_cons, List.foldl_nil]
  refine wpe_mono (signs_of_w K true S1 (n + 3) (by omega) (by omega)) ?_ (fun _ _ _ _ z => z.elim)
  rintro _ S2 ⟨n2, rfl, l1, l2, l3, g2⟩
  rw [o_tuple (getR_l l3)]
  exact ⟨rfl, g1.trans g2⟩
theorem signs_bad {n lo : Nat} {S : Sto} {v : Vl} (hv : ∃ d, Dat lo S 5 v d) (hb : isKd v = false) : wpe ((lev (n + 4)).1 7 [v] S) (badE S "BadKind") fun _ _ => False := by
  rw [lv_signs]
  refine w_run rfl ?_
  unfold b_signs
  simp only [w_lst, w_tup, s_aug, w_caught, w_slot, w_c, w_nil, w_cons, w_bin, w_bi, w_tst, w_not, w_and, w_or, w_ite, w_andV, w_orV, w_call, w_callK, w_met, w_ok, wo_some, wo_if, w_if, s_seq, s_if, s_ret, s_exp, s_skip, s_cont, s_break, s_raise, s_set, s_par, startE, List.map_cons, List.map_nil, List.length_cons, List.length_nil, List.replicate, List.cons_append, List.nil_append, List.getElem?_cons_zero, List.getElem?_cons_succ, List.set_cons_zero, List.set_cons_succ, Option.some.injEq, exists_eq_left', exists_eq_left, true_and, and_true, Nat.zero_le, List.zip_cons_cons, List.zip_nil_right, List.foldl_cons, List.foldl_nil]
  exact wpe_mono (need_kind_w hv) (fun r S1 z => by rw [hb] at z; cases z.1) (fun _ _ _ _ z => z.1)
theorem parts_bad {n lo : Nat} {S : Sto} {v : Vl} (hv : ∃ d, Dat lo S 5 v d) (hb : isKd v = false) : wpe ((lev (n + 4)).1 10 [v] S) (badE S "BadKind") fun _ _ => False := by
  rw [lv_parts]
  refine w_run rfl ?_
  unfold b_parts
  simp only [w_lst, w_tup, s_aug, w_caught, w_slot, w_c, w_nil, w_cons, w_bin, w_bi, w_tst, w_not, w_and, w_or, w_ite, w_andV, w_orV, w_call, w_callK, w_met, w_ok, wo_some, wo_if, w_if, s_seq, s_if, s_ret, s_exp, s_skip, s_cont, s_break, s_raise, s_set, s_par, startE, List.map_cons, List.map_nil, List.length_cons, List.length_nil, List.replicate, List.cons_append, List.nil_append, List.getElem?_cons_zero, List.getElem?_cons_succ, List.set_cons_zero, List.set_cons_succ, Option.some.injEq, exists_eq_left', exists_eq_left, true_and, and_true, Nat.zero_le, List.zip_cons_cons, List.zip_nil_right, List.foldl_cons, List.foldl_nil]
  exact wpe_mono (need_kind_w hv) (fun r S1 z => by rw [hb] at z; cases z.1) (fun _ _ _ _ z => z.1)
theorem keeper_bad {n lo : Nat} {S : Sto} {v w : Vl} (hv : ∃ d, Dat lo S 5 v d) (hb : isKd v = false) : wpe ((lev (n + 4)).1 12 [v, w] S) (badE S "BadKind") fun _ _ => False := by
  rw [lv_keeper]
  refine w_run rfl ?_
  unfold b_keeper
  simp only [w_lst, w_tup, s_aug, w_caught, w_slot, w_c, w_nil, w_cons, w_bin, w_bi, w_tst, w_not, w_and, w_or, w_ite, w_andV, w_orV, w_call, w_callK, w_met, w_ok, wo_some, wo_if, w_if, s_seq, s_if, s_ret, s_exp, s_skip, s_cont, s_break, s_raise, s_set, s_par, startE, List.map_cons, List.map_nil, List.length_cons, List.length_nil, List.replicate, List.cons_append, List.nil_append, List.getElem?_cons_zero, List.getElem?_cons_succ, List.set_cons_zero, List.set_cons_succ, Option.some.injEq, exists_eq_left', exists_eq_left, true_and, and_true, Nat.zero_le, List.zip_cons_cons, List.zip_nil_right, List.foldl_cons, List.foldl_nil]
  exact wpe_mono (need_kind_w hv) (fun r S1 z => by rw [hb] at z; cases z.1) (fun _ _ _ _ z => z.1)
end G

set_option linter.all false
set_option maxRecDepth 100000
set_option maxHeartbeats 4000000
namespace G
open PySem PySem.Spec PyProof.Rows L2 Q

def iV (ps : List Nat) : List Vl := ps.map fun i : Nat => Vl.int (i : Int)
def tE (l : List (Nat × List Nat)) : List (Nat × Vl) := l.map fun p => (p.1, Vl.tup (iV p.2))
theorem tE_app (l m : List (Nat × List Nat)) : tE (l ++ m) = tE l ++ tE m := by simp [tE]
theorem tE_keys (l : List (Nat × List Nat)) : (tE l).map (·.1) = l.map (·.1) := by simp [tE]
theorem iV_app (l m : List Nat) : iV (l ++ m) = iV l ++ iV m := by simp [iV]
theorem iV_len (l : List Nat) : (iV l).length = l.length := by simp [iV]
theorem resL_len : ∀ (l : List Kd) (f : Nat), (resL l f).length = l.length
  | [], _ => rfl
  | _ :: l, f => by show (resL l _).length + 1 = _; rw [resL_len]; rfl
theorem bodL_lt {l : List Kd} {f : Nat} : ∀ p ∈ tE (bodL l f), f ≤ p.1 ∧ p.1 < f + sumE l := by
  intro p hp
  have : p.1 ∈ (tE (bodL l f)).map (·.1) := List.mem_map.mpr ⟨p, hp, rfl⟩
  rw [tE_keys, bodL_keys, List.mem_range'_1] at this
  exact this
theorem sum_take {l : List Kd} {i : Nat} {a : Kd} (h : l[i]? = some a) : sumE (l.take i) + a.e ≤ sumE l := by
  have e : l = l.take i ++ (a :: l.drop (i + 1)) := by
    have hl := (List.getElem?_eq_some_iff.mp h).1
    have ha := (List.getElem?_eq_some_iff.mp h).2
    rw [← ha, List.getElem_cons_drop, List.take_append_drop]
  have e2 := congrArg sumE e
  have : sumE (l.take i ++ (a :: l.drop (i + 1))) = sumE (l.take i) + (a.e + sumE (l.drop (i + 1))) := by simp [sumE]
  omega
theorem add_parts_w : ∀ (N : Nat) (K : Kd) (S : Sto) (m f first : Nat) (l : List (Nat × Vl)), K.ht ≤ N → N + 4 ≤ m → K.e ≤ 100 → f < S.n → S.at_ f = .dic false (dEn l) → (∀ p ∈ l, p.1 < first) → l.length + K.e ≤ 100000 →
    wpe ((lev m).1 8 [K.v, .int first, .ref f] S) noE fun r S' => r = .int ((first + K.e - 1 : Nat) : Int) ∧ S'.at_ f = .dic false (dEn (l ++ tE (K.pl first))) ∧ GrX f S S' := by
  intro N
  induction N using Nat.strongRecOn with
  | _ N ih =>
    intro K S m f first l hN hm hK hf hS hl hlen
    obtain ⟨m, rfl⟩ : ∃ m', m = m' + 2 := ⟨m - 2, by omega⟩
    have eK := e_sum K
    rw [lv_add_parts]
    refine w_run rfl ?_
    unfold b_add_parts
    refine s_cut (fun ρ S1 => ρ = [some K.v, some (.int first), some (.ref f), none, some (.int first), some (.ref S.n)] ∧ S1 = S.push (.lst [])) ?_ ?_
    · simp only [w_lst, w_tup, s_aug, w_caught, w_slot, w_c, w_nil, w_cons, w_bin, w_bi, w_tst, w_not, w_and, w_or, w_ite, w_andV, w_orV, w_call, w_callK, w_met, w_ok, wo_some, wo_if, w_if, s_seq, s_if, s_ret, s_exp, s_skip, s_cont, s_break, s_raise, s_set, s_par, startE, List.map_cons, List.map_nil, List.length_cons, List.length_nil, List.replicate, List.cons_append, List.nil_append, List.getElem?_cons_zero, List.getElem?_cons_succ, List.set_cons_zero, List.set_cons_succ, Option.some.injEq, exists_eq_left', exists_eq_left, true_and, and_true, Nat.zero_le, List.zip_cons_cons, List.zip_nil_right, List.foldl_cons, List.foldl_nil]
    rintro _ _ ⟨rfl, rfl⟩
    refine s_cut (fun ρ S1 => (∃ a3, ρ = [some K.v, some (.int first), some (.ref f), a3, some (.int ((first + sumE K.args : Nat) : Int)), some (.ref S.n)]) ∧ S1.at_ S.n = .lst (iV (resL K.args first)) ∧ S1.at_ f = .dic false (dEn (l ++ tE (bodL K.args first))) ∧ GrX f S S1 ∧ S.n < S1.n) ?_ ?_
    · refine s_for ?_
      rw [w_it, w_call, w_cons, w_slot]
      refine ⟨_, rfl, ?_⟩
      rw [w_nil]
      refine wpe_mono (args_of_w (K := K) hK) ?_ (fun _ _ _ _ z => z.elim)
      rintro _ S1 ⟨rfl, g1⟩
      refine .inl ⟨_, rfl, K.args.map Kd.v, fun i ρ S1 => (∃ a3, ρ = [some K.v, some (.int first), some (.ref f), a3, some (.int ((first + sumE (K.args.take i) : Nat) : Int)), some (.ref S.n)]) ∧ S1.at_ S.n = .lst (iV (resL (K.args.take i) first)) ∧ S1.at_ f = .dic false (dEn (l ++ tE (bodL (K.args.take i) first))) ∧ GrX f S S1 ∧ S.n < S1.n, ?_, fun i ρ S _ _ => rfl, ?_, ?_⟩
      · refine ⟨⟨none, rfl⟩, (g1.at_ _ (Nat.zero_le _) (Nat.lt_succ_self _)).trans push_same, ?_, (GrX.of Gr.push).trans (.of g1), Nat.lt_of_lt_of_le (Nat.lt_succ_self _) g1.n⟩
        rw [g1.at_ f (Nat.zero_le _) (Nat.lt_succ_of_lt hf), push_lt hf, hS]
        simp [bodL, tE]
      · rintro i x ρ S2 hx ⟨⟨a3, rfl⟩, h1, h2, g2, h3⟩
        obtain ⟨a, ha, rfl⟩ : ∃ a, K.args[i]? = some a ∧ x = a.v := by
          rw [List.getElem?_map] at hx
          cases e : K.args[i]? with
          | none => rw [e] at hx; cases hx
          | some a => rw [e] at hx; cases hx; exact ⟨a, rfl, rfl⟩
        have hmem : a ∈ K.args := List.mem_of_getElem? ha
        have q1 := ht_args K a hmem
        have q2 := e_mem hmem
        have q3 := sum_take ha
        have hil : i < K.args.length := (List.getElem?_eq_some_iff.mp ha).1
        have q4 := args_len K
        simp only [gNm, w_lst, w_tup, s_aug, w_caught, w_slot, w_c, w_nil, w_cons, w_bin, w_bi, w_tst, w_not, w_and, w_or, w_ite, w_andV, w_orV, w_call, w_callK, w_met, w_ok, wo_some, wo_if, w_if, s_seq, s_if, s_ret, s_exp, s_skip, s_cont, s_break, s_raise, s_set, s_par, startE, List.map_cons, List.map_nil, List.length_cons, List.length_nil, List.replicate, List.cons_append, List.nil_append, List.getElem?_cons_zero, List.getElem?_cons_succ, List.set_cons_zero, List.set_cons_succ, Option.some.injEq, exists_eq_left', exists_eq_left, true_and, and_true, Nat.zero_le, List.zip_cons_cons, List.zip_nil_right, List.foldl_cons, List.foldl_nil, o_tyl h1]
        refine wpe_mono (ih a.ht (by omega) a S2 (m + 1) f (first + sumE (K.args.take i)) (l ++ tE (bodL (K.args.take i) first)) (Nat.le_refl _) (by omega) (by omega) (Nat.lt_of_lt_of_le hf g2.n) h2 ?_ ?_) ?_ (fun _ _ _ _ z => z.elim)
        · intro p hp
          rcases List.mem_append.mp hp with hp | hp
          · have := hl p hp; omega
          · exact (bodL_lt p hp).2
        · have e1 := congrArg List.length (bodL_keys (K.args.take i) first)
          rw [List.length_map, List.length_range'] at e1
          rw [List.length_append, tE, List.length_map, e1]
          omega
        rintro _ S3 ⟨rfl, k1, g3⟩
        have hne : S.n ≠ f := by omega
        have h4 : S3.at_ S.n = .lst (iV (resL (K.args.take i) first)) := (g3.at_ _ h3 hne).trans h1
        rw [o_append h4 (by rw [iV_len, resL_len, List.length_take]; rw [show sizeLine = 16777216 from rfl]; omega)]
        have n3 : S.n < S3.n := Nat.lt_of_lt_of_le h3 g3.n
        refine wpe_mono (many_ends_w a.ht a _ (m + 1) (Nat.le_refl _) (by omega) (by omega)) ?_ (fun _ _ _ _ z => z.elim)
        rintro _ S4 ⟨rfl, g4⟩
        rw [oi_int]
        have e5 : K.args.take (i + 1) = K.args.take i ++ [a] := take_snoc ha
        refine ⟨⟨some a.v, ?_⟩, ?_, ?_, ((g2.trans g3).set_new (Nat.le_refl _)).trans (.of g4), Nat.lt_of_lt_of_le n3 g4.n⟩
        · rw [e5, sumE_app]
          simp only [List.cons.injEq, Option.some.injEq, Vl.int.injEq, true_and, and_true]
          first | (push_cast; omega) | (refine ⟨trivial, ?_⟩; push_cast; omega)
        · rw [g4.at_ _ (Nat.zero_le _) n3, set_same, e5, resL_app, iV_app]
          rfl
        · rw [g4.at_ _ (Nat.zero_le _) (Nat.lt_of_lt_of_le hf (g2.trans g3).n), set_ne (Ne.symm hne), k1, e5, bodL_app, tE_app, List.append_assoc]
      · rintro ρ S2 ⟨⟨a3, rfl⟩, h1, h2, g2, h3⟩
        rw [List.length_map, List.take_length] at *
        exact ⟨⟨a3, rfl⟩, h1, h2, g2, h3⟩
    · rintro _ S2 ⟨⟨a3, rfl⟩, h1, h2, g2, h3⟩
      have ek : first + sumE K.args = first + K.e - 1 := by omega
      have e1 := congrArg List.length (bodL_keys K.args first)
      rw [List.length_map, List.length_range'] at e1
      refine s_cut (fun ρ S3 => ρ = [some K.v, some (.int first), some (.ref f), a3, some (.int ((first + sumE K.args : Nat) : Int)), some (.ref S.n)] ∧ S3.at_ f = .dic false (dEn (l ++ tE (K.pl first))) ∧ GrX f S S3) ?_ ?_
      · refine s_keyI (n := f) (k := ((first + sumE K.args : Nat) : Int)) rfl rfl ?_
        simp only [w_lst, w_tup, s_aug, w_caught, w_slot, w_c, w_nil, w_cons, w_bin, w_bi, w_tst, w_not, w_and, w_or, w_ite, w_andV, w_orV, w_call, w_callK, w_met, w_ok, wo_some, wo_if, w_if, s_seq, s_if, s_ret, s_exp, s_skip, s_cont, s_break, s_raise, s_set, s_par, startE, List.map_cons, List.map_nil, List.length_cons, List.length_nil, List.replicate, List.cons_append, List.nil_append, List.getElem?_cons_zero, List.getElem?_cons_succ, List.set_cons_zero, List.set_cons_succ, Option.some.injEq, exists_eq_left', exists_eq_left, true_and, and_true, Nat.zero_le, List.zip_cons_cons, List.zip_nil_right, List.foldl_cons, List.foldl_nil]
        rw [o_tuple (getR_l h1)]
        refine ⟨_, h2, ?_, ?_, g2.set⟩
        · rw [dEn_len, List.length_append, tE, List.length_map, e1, show sizeLine = 16777216 from rfl]; omega
        · rw [set_same, dPut_new]
          · congr 2
            unfold Kd.pl
            rw [tE_app, bod_args, res_args, ← List.append_assoc, ek]
            rfl
          · intro p hp
            rcases List.mem_append.mp hp with hp | hp
            · have := hl p hp; omega
            · have := (bodL_lt p hp).2; omega
      · rintro _ S3 ⟨rfl, k1, k2⟩
        simp only [w_lst, w_tup, s_aug, w_caught, w_slot, w_c, w_nil, w_cons, w_bin, w_bi, w_tst, w_not, w_and, w_or, w_ite, w_andV, w_orV, w_call, w_callK, w_met, w_ok, wo_some, wo_if, w_if, s_seq, s_if, s_ret, s_exp, s_skip, s_cont, s_break, s_raise, s_set, s_par, startE, List.map_cons, List.map_nil, List.length_cons, List.length_nil, List.replicate, List.cons_append, List.nil_append, List.getElem?_cons_zero, List.getElem?_cons_succ, List.set_cons_zero, List.set_cons_succ, Option.some.injEq, exists_eq_left', exists_eq_left, true_and, and_true, Nat.zero_le, List.zip_cons_cons, List.zip_nil_right, List.foldl_cons, List.foldl_nil]
        exact ⟨by rw [ek], k1, k2⟩
end G

set_option linter.all false
set_option maxRecDepth 100000
set_option maxHeartbeats 4000000
namespace G
open PySem PySem.Spec PyProof.Rows L2 Q

/-- what the law's own dict tells: for each end a list of its parts, and a kind -/
inductive TL (S : Sto) (f lo : Nat) : List (Nat × List Nat) → List (Nat × Vl) → Prop
  | nil : TL S f lo [] []
  | cons {i n : Nat} {ps : List Nat} {x : Vl} {L : List (Nat × List Nat)} {tl : List (Nat × Vl)} : lo ≤ n → n ≠ f → n < S.n → S.at_ n = .lst (iV ps) → TL S f lo L tl → TL S f lo ((i, ps) :: L) ((i, .tup [.ref n, x]) :: tl)
section
variable {S S' : Sto} {f lo : Nat} {L M : List (Nat × List Nat)} {tl ml : List (Nat × Vl)}
theorem TL.gr (h : TL S f lo L tl) (g : GrX f S S') : TL S' f lo L tl := by
  induction h with
  | nil => exact .nil
  | cons h1 h2 h3 h4 _ ih => exact .cons h1 h2 (Nat.lt_of_lt_of_le h3 g.n) ((g.at_ _ h3 h2).trans h4) ih
theorem TL.set {k : Nat} {o : Ob} (h : TL S f lo L tl) (hk : k < lo) : TL (S.set k o) f lo L tl := by
  induction h with
  | nil => exact .nil
  | cons h1 h2 h3 h4 _ ih => exact .cons h1 h2 h3 (by rw [set_ne (by omega)]; exact h4) ih
theorem TL.low {lo' : Nat} (h : TL S f lo L tl) (hk : lo' ≤ lo) : TL S f lo' L tl := by
  induction h with
  | nil => exact .nil
  | cons h1 h2 h3 h4 _ ih => exact .cons (Nat.le_trans hk h1) h2 h3 h4 ih
theorem TL.app (h : TL S f lo L tl) (k : TL S f lo M ml) : TL S f lo (L ++ M) (tl ++ ml) := by
  induction h with
  | nil => exact k
  | cons h1 h2 h3 h4 _ ih => exact .cons h1 h2 h3 h4 ih
theorem TL.keys (h : TL S f lo L tl) : tl.map (·.1) = L.map (·.1) := by
  induction h with
  | nil => rfl
  | cons h1 h2 h3 h4 _ ih => rw [List.map_cons, List.map_cons, ih]
theorem TL.get (h : TL S f lo L tl) : ∀ {j i : Nat} {ps : List Nat}, L[j]? = some (i, ps) → ∃ n x, tl[j]? = some (i, .tup [.ref n, x]) ∧ S.at_ n = .lst (iV ps) ∧ n < S.n ∧ lo ≤ n := by
  induction h with
  | nil => intro j i ps e; simp at e
  | cons h1 h2 h3 h4 _ ih =>
    intro j i ps e
    cases j with
    | zero => simp only [List.getElem?_cons_zero, Option.some.injEq, Prod.mk.injEq] at e; obtain ⟨rfl, rfl⟩ := e; exact ⟨_, _, rfl, h4, h3, h1⟩
    | succ j => simp only [List.getElem?_cons_succ] at e ⊢; exact ih e
end
theorem hd_parts_w : ∀ (N : Nat) (K : Kd) (S : Sto) (m f first : Nat) (l : List (Nat × Vl)), K.ht ≤ N → K.e + N + 4 ≤ m → K.e ≤ 100 → f < S.n → S.at_ f = .dic false (dEn l) → (∀ p ∈ l, p.1 < first) → l.length + K.e ≤ 100000 →
    wpe ((lev m).1 22 [K.v, .int first, .ref f] S) noE fun r S' => ∃ tl, r = .ref f ∧ S'.at_ f = .dic false (dEn (l ++ tl)) ∧ GrX f S S' ∧ TL S' f S.n (K.pl first) tl := by
  intro N
  induction N using Nat.strongRecOn with
  | _ N ih =>
    intro K S m f first l hN hm hK hf hS hl hlen
    obtain ⟨m, rfl⟩ : ∃ m', m = m' + 2 := ⟨m - 2, by omega⟩
    have eK := e_sum K
    rw [lv__law_hd_parts]
    refine w_run rfl ?_
    unfold b__law_hd_parts
    refine s_cut (fun ρ S1 => ρ = [some K.v, some (.int first), some (.ref f), none, some (.int first), some (.ref S.n)] ∧ S1 = S.push (.lst [])) ?_ ?_
    · simp only [w_lst, w_tup, s_aug, w_caught, w_slot, w_c, w_nil, w_cons, w_bin, w_bi, w_tst, w_not, w_and, w_or, w_ite, w_andV, w_orV, w_call, w_callK, w_met, w_ok, wo_some, wo_if, w_if, s_seq, s_if, s_ret, s_exp, s_skip, s_cont, s_break, s_raise, s_set, s_par, startE, List.map_cons, List.map_nil, List.length_cons, List.length_nil, List.replicate, List.cons_append, List.nil_append, List.getElem?_cons_zero, List.getElem?_cons_succ, List.set_cons_zero, List.set_cons_succ, Option.some.injEq, exists_eq_left', exists_eq_left, true_and, and_true, Nat.zero_le, List.zip_cons_cons, List.zip_nil_right, List.foldl_cons, List.foldl_nil]
    rintro _ _ ⟨rfl, rfl⟩
    refine s_cut (fun ρ S1 => (∃ a3, ρ = [some K.v, some (.int first), some (.ref f), a3, some (.int ((first + sumE K.args : Nat) : Int)), some (.ref S.n)]) ∧ S1.at_ S.n = .lst (iV (resL K.args first)) ∧ (∃ tl, S1.at_ f = .dic false (dEn (l ++ tl)) ∧ TL S1 f (S.n + 1) (bodL K.args first) tl) ∧ GrX f S S1 ∧ S.n < S1.n) ?_ ?_
    · refine s_for ?_
      rw [w_it, w_call, w_cons, w_slot]
      refine ⟨_, rfl, ?_⟩
      rw [w_nil]
      refine wpe_mono (wanted_w (K := K) hK) ?_ (fun _ _ _ _ z => z.elim)
      rintro _ S1 ⟨rfl, w1, w2, g1⟩
      generalize hw : (S.push (.lst [])).n = w at w1 w2 ⊢
      have hw : S.n + 1 = w := hw
      refine .inr (.inl ⟨w, _, rfl, getR_l w2, K.args.map Kd.v, fun i ρ S1 => (∃ a3, ρ = [some K.v, some (.int first), some (.ref f), a3, some (.int ((first + sumE (K.args.take i) : Nat) : Int)), some (.ref S.n)]) ∧ S1.at_ S.n = .lst (iV (resL (K.args.take i) first)) ∧ (∃ tl, S1.at_ f = .dic false (dEn (l ++ tl)) ∧ TL S1 f (S.n + 1) (bodL (K.args.take i) first) tl) ∧ GrX f S S1 ∧ S.n < S1.n ∧ S1.at_ w = .lst (K.args.map Kd.v) ∧ w < S1.n, ?_, ?_, ?_, ?_⟩)
      · refine ⟨⟨none, rfl⟩, (g1.at_ _ (Nat.zero_le _) (Nat.lt_succ_self _)).trans push_same, ⟨[], ?_, .nil⟩, (GrX.of Gr.push).trans (.of g1), Nat.lt_of_lt_of_le (Nat.lt_succ_self _) g1.n, w2, w1⟩
        rw [g1.at_ f (Nat.zero_le _) (Nat.lt_succ_of_lt hf), push_lt hf, hS, List.append_nil]
      · rintro i ρ S _ ⟨_, _, _, _, _, h, _⟩
        exact nxL_at (getR_l h)
      · rintro i x ρ S2 hx ⟨⟨a3, rfl⟩, h1, ⟨tl, h2, ht⟩, g2, h3, hw2, hw3⟩
        obtain ⟨a, ha, rfl⟩ : ∃ a, K.args[i]? = some a ∧ x = a.v := by
          rw [List.getElem?_map] at hx
          cases e : K.args[i]? with
          | none => rw [e] at hx; cases hx
          | some a => rw [e] at hx; cases hx; exact ⟨a, rfl, rfl⟩
        have hmem : a ∈ K.args := List.mem_of_getElem? ha
        have q1 := ht_args K a hmem
        have q2 := e_mem hmem
        have q3 := sum_take ha
        have hil : i < K.args.length := (List.getElem?_eq_some_iff.mp ha).1
        have q4 := args_len K
        have hk := ht.keys
        rw [bodL_keys] at hk
        have hkl := congrArg List.length hk
        rw [List.length_map, List.length_range'] at hkl
        have hkm : ∀ p ∈ tl, p.1 < first + sumE (K.args.take i) := by
          intro p hp
          have : p.1 ∈ tl.map (·.1) := List.mem_map.mpr ⟨p, hp, rfl⟩
          rw [hk, List.mem_range'_1] at this
          exact this.2
        simp only [gNm, w_lst, w_tup, s_aug, w_caught, w_slot, w_c, w_nil, w_cons, w_bin, w_bi, w_tst, w_not, w_and, w_or, w_ite, w_andV, w_orV, w_call, w_callK, w_met, w_ok, wo_some, wo_if, w_if, s_seq, s_if, s_ret, s_exp, s_skip, s_cont, s_break, s_raise, s_set, s_par, startE, List.map_cons, List.map_nil, List.length_cons, List.length_nil, List.replicate, List.cons_append, List.nil_append, List.getElem?_cons_zero, List.getElem?_cons_succ, List.set_cons_zero, List.set_cons_succ, Option.some.injEq, exists_eq_left', exists_eq_left, true_and, and_true, Nat.zero_le, List.zip_cons_cons, List.zip_nil_right, List.foldl_cons, List.foldl_nil]
        refine wpe_mono (ih a.ht (by omega) a S2 (m + 1) f (first + sumE (K.args.take i)) (l ++ tl) (Nat.le_refl _) (by omega) (by omega) (Nat.lt_of_lt_of_le hf g2.n) h2 ?_ ?_) ?_ (fun _ _ _ _ z => z.elim)
        · intro p hp
          rcases List.mem_append.mp hp with hp | hp
          · have := hl p hp; omega
          · exact hkm p hp
        · rw [List.length_append, hkl]
          omega
        rintro _ S3 ⟨tl2, rfl, k1, g3, ht3⟩
        refine wpe_mono (oh_ends_w a S3 (m + 1) (by omega)) ?_ (fun _ _ _ _ z => z.elim)
        rintro _ S4 ⟨rfl, rfl⟩
        rw [o_add]
        have hne : S.n ≠ f := by omega
        have h4 : S4.at_ S.n = .lst (iV (resL (K.args.take i) first)) := (g3.at_ _ h3 hne).trans h1
        simp only [w_lst, w_tup, s_aug, w_caught, w_slot, w_c, w_nil, w_cons, w_bin, w_bi, w_tst, w_not, w_and, w_or, w_ite, w_andV, w_orV, w_call, w_callK, w_met, w_ok, wo_some, wo_if, w_if, s_seq, s_if, s_ret, s_exp, s_skip, s_cont, s_break, s_raise, s_set, s_par, startE, List.map_cons, List.map_nil, List.length_cons, List.length_nil, List.replicate, List.cons_append, List.nil_append, List.getElem?_cons_zero, List.getElem?_cons_succ, List.set_cons_zero, List.set_cons_succ, Option.some.injEq, exists_eq_left', exists_eq_left, true_and, and_true, Nat.zero_le, List.zip_cons_cons, List.zip_nil_right, List.foldl_cons, List.foldl_nil, o_tyl h4]
        rw [o_sub, o_append h4 (by rw [iV_len, resL_len, List.length_take]; rw [show sizeLine = 16777216 from rfl]; omega)]
        have n3 : S.n < S4.n := Nat.lt_of_lt_of_le h3 g3.n
        have e5 : K.args.take (i + 1) = K.args.take i ++ [a] := take_snoc ha
        have ea := e_pos a
        refine ⟨⟨some a.v, ?_⟩, ?_, ⟨tl ++ tl2, ?_, ?_⟩, (g2.trans g3).set_new (Nat.le_refl _), n3, ?_, Nat.lt_of_lt_of_le hw3 g3.n⟩
        · rw [e5, sumE_app]
          simp only [List.cons.injEq, Option.some.injEq, Vl.int.injEq, true_and, and_true]
          first | (push_cast; omega) | (refine ⟨trivial, ?_⟩; push_cast; omega)
        · rw [set_same, e5, resL_app, iV_app]
          congr 2
          show [Vl.int _] = [Vl.int _]
          congr 2
          push_cast
          omega
        · rw [set_ne (Ne.symm hne), k1, List.append_assoc]
        · rw [e5, bodL_app]
          exact ((ht.gr g3).app (ht3.low (by omega))).set (Nat.lt_succ_self _)
        · rw [set_ne (by omega)]
          exact (g3.at_ _ hw3 (by omega)).trans hw2
      · rintro ρ S2 ⟨⟨a3, rfl⟩, h1, h2, g2, h3, _⟩
        rw [List.length_map, List.take_length] at *
        exact ⟨⟨a3, rfl⟩, h1, h2, g2, h3⟩
    · rintro _ S2 ⟨⟨a3, rfl⟩, h1, ⟨tl, h2, ht⟩, g2, h3⟩
      have ek : first + sumE K.args = first + K.e - 1 := by omega
      have hk := ht.keys
      rw [bodL_keys] at hk
      have hkl := congrArg List.length hk
      rw [List.length_map, List.length_range'] at hkl
      refine s_cut (fun ρ S3 => ρ = [some K.v, some (.int first), some (.ref f), a3, some (.int ((first + sumE K.args : Nat) : Int)), some (.ref S.n)] ∧ S3.at_ f = .dic false (dEn (l ++ (tl ++ [(first + sumE K.args, .tup [.ref S.n, K.v])]))) ∧ GrX f S S3 ∧ TL S3 f S.n (K.pl first) (tl ++ [(first + sumE K.args, .tup [.ref S.n, K.v])])) ?_ ?_
      · refine s_keyI (n := f) (k := ((first + sumE K.args : Nat) : Int)) rfl rfl ?_
        simp only [w_lst, w_tup, s_aug, w_caught, w_slot, w_c, w_nil, w_cons, w_bin, w_bi, w_tst, w_not, w_and, w_or, w_ite, w_andV, w_orV, w_call, w_callK, w_met, w_ok, wo_some, wo_if, w_if, s_seq, s_if, s_ret, s_exp, s_skip, s_cont, s_break, s_raise, s_set, s_par, startE, List.map_cons, List.map_nil, List.length_cons, List.length_nil, List.replicate, List.cons_append, List.nil_append, List.getElem?_cons_zero, List.getElem?_cons_succ, List.set_cons_zero, List.set_cons_succ, Option.some.injEq, exists_eq_left', exists_eq_left, true_and, and_true, Nat.zero_le, List.zip_cons_cons, List.zip_nil_right, List.foldl_cons, List.foldl_nil]
        refine ⟨by decide, _, h2, ?_, ?_, g2.set, ?_⟩
        · rw [dEn_len, List.length_append, hkl, show sizeLine = 16777216 from rfl]; omega
        · rw [set_same, dPut_new, List.append_assoc]
          intro p hp
          rcases List.mem_append.mp hp with hp | hp
          · have := hl p hp; omega
          · have : p.1 ∈ tl.map (·.1) := List.mem_map.mpr ⟨p, hp, rfl⟩
            rw [hk, List.mem_range'_1] at this
            omega
        · unfold Kd.pl
          rw [bod_args, res_args, ← ek]
          have hne : S.n ≠ f := by omega
          refine TL.app ((ht.gr (GrX.refl.set)).low (Nat.le_succ _)) (.cons (Nat.le_refl _) hne h3 ?_ .nil)
          rw [set_ne hne]
          exact h1
      · rintro _ S3 ⟨rfl, k1, k2, k3⟩
        simp only [w_lst, w_tup, s_aug, w_caught, w_slot, w_c, w_nil, w_cons, w_bin, w_bi, w_tst, w_not, w_and, w_or, w_ite, w_andV, w_orV, w_call, w_callK, w_met, w_ok, wo_some, wo_if, w_if, s_seq, s_if, s_ret, s_exp, s_skip, s_cont, s_break, s_raise, s_set, s_par, startE, List.map_cons, List.map_nil, List.length_cons, List.length_nil, List.replicate, List.cons_append, List.nil_append, List.getElem?_cons_zero, List.getElem?_cons_succ, List.set_cons_zero, List.set_cons_succ, Option.some.injEq, exists_eq_left', exists_eq_left, true_and, and_true, Nat.zero_le, List.zip_cons_cons, List.zip_nil_right, List.foldl_cons, List.foldl_nil]
        exact ⟨_, k1, k2, k3⟩
end G

set_option linter.all false
set_option maxRecDepth 100000
set_option maxHeartbeats 4000000
namespace G
open PySem PySem.Spec PyProof.Rows L2 Q

def kI (n : Nat) : List Int := (List.range' 0 n).map fun i : Nat => (i : Int)
theorem kI_len (n : Nat) : (kI n).length = n := by unfold kI; rw [List.length_map, List.length_range']
theorem kI_le (n : Nat) : (kI n).Pairwise (· ≤ ·) := by
  unfold kI
  rw [List.pairwise_map]
  exact (List.pairwise_lt_range' (s := 0) (n := n)).imp fun h => by omega
theorem kI_at {n i : Nat} (h : i < n) : (kI n)[i]? = some (i : Int) := by
  unfold kI
  rw [List.getElem?_map, List.getElem?_range' h]
  simp
theorem pl_kI (K : Kd) : (dEn (tE (K.pl 0))).map (·.1) = (kI K.e).map Vl.int := by
  rw [dEn_keys]
  unfold kI
  rw [← pl_keys K 0, ← tE_keys, List.map_map, List.map_map, List.map_map]
  rfl
theorem pl_nodup (K : Kd) : ((tE (K.pl 0)).map (·.1)).Nodup := by rw [tE_keys, pl_keys]; exact List.nodup_range'
theorem pl_get {K : Kd} {i : Nat} {ps : List Nat} (h : (i, ps) ∈ K.pl 0) : dGet (dEn (tE (K.pl 0))) (.int i) = some (.tup (iV ps)) :=
  dGet_in (List.mem_map.mpr ⟨(i, ps), h, rfl⟩) (pl_nodup K)
theorem parts_of_ends_w {n : Nat} {S : Sto} {K : Kd} (h : K.e ≤ 60) (hn : K.e + 6 ≤ n) : wpe ((lev n).1 9 [K.v] S) noE fun r S' => ∃ d, r = .ref d ∧ S.n ≤ d ∧ d < S'.n ∧ S'.at_ d = .dic false (dEn (tE (K.pl 0))) ∧ Gr 0 S S' := by
  obtain ⟨n, rfl⟩ : ∃ n', n = n' + 1 := ⟨n - 1, by omega⟩
  have hh := ht_e K
  rw [lv_parts_of_ends]
  refine w_run rfl ?_
  unfold b_parts_of_ends
  refine s_cut (fun ρ S1 => ρ = [some K.v, some (.ref S.n), none] ∧ S1 = S.push (.dic false [])) ?_ ?_
  · rw [s_set]
    exact ⟨rfl, rfl⟩
  rintro _ _ ⟨rfl, rfl⟩
  refine s_cut (fun ρ S1 => ρ = [some K.v, some (.ref S.n), none] ∧ S1.at_ S.n = .dic false (dEn (tE (K.pl 0))) ∧ Gr 0 S S1 ∧ S.n < S1.n) ?_ ?_
  · simp only [w_lst, w_tup, s_aug, w_caught, w_slot, w_c, w_nil, w_cons, w_bin, w_bi, w_tst, w_not, w_and, w_or, w_ite, w_andV, w_orV, w_call, w_callK, w_met, w_ok, wo_some, wo_if, w_if, s_seq, s_if, s_ret, s_exp, s_skip, s_cont, s_break, s_raise, s_set, s_par, startE, List.map_cons, List.map_nil, List.length_cons, List.length_nil, List.replicate, List.cons_append, List.nil_append, List.getElem?_cons_zero, List.getElem?_cons_succ, List.set_cons_zero, List.set_cons_succ, Option.some.injEq, exists_eq_left', exists_eq_left, true_and, and_true, Nat.zero_le, List.zip_cons_cons, List.zip_nil_right, List.foldl_cons, List.foldl_nil]
    refine wpe_mono (add_parts_w K.ht K (S.push (.dic false [])) n S.n 0 [] (Nat.le_refl _) (by omega) (by omega) (Nat.lt_succ_self _) push_same (fun p hp => by cases hp) (by simp; omega)) ?_ (fun _ _ _ _ z => z.elim)
    rintro _ S1 ⟨rfl, h1, g1⟩
    exact ⟨h1, g1.push_gr, Nat.lt_of_lt_of_le (Nat.lt_succ_self _) g1.n⟩
  rintro _ S1 ⟨rfl, h1, g1, n1⟩
  simp only [w_lst, w_tup, s_aug, w_caught, w_slot, w_c, w_nil, w_cons, w_bin, w_bi, w_tst, w_not, w_and, w_or, w_ite, w_andV, w_orV, w_call, w_callK, w_met, w_ok, wo_some, wo_if, w_if, s_seq, s_if, s_ret, s_exp, s_skip, s_cont, s_break, s_raise, s_set, s_par, startE, List.map_cons, List.map_nil, List.length_cons, List.length_nil, List.replicate, List.cons_append, List.nil_append, List.getElem?_cons_zero, List.getElem?_cons_succ, List.set_cons_zero, List.set_cons_succ, Option.some.injEq, exists_eq_left', exists_eq_left, true_and, and_true, Nat.zero_le, List.zip_cons_cons, List.zip_nil_right, List.foldl_cons, List.foldl_nil]
  refine w_lcmap ?_
  simp only [w_it, w_lst, w_tup, s_aug, w_caught, w_slot, w_c, w_nil, w_cons, w_bin, w_bi, w_tst, w_not, w_and, w_or, w_ite, w_andV, w_orV, w_call, w_callK, w_met, w_ok, wo_some, wo_if, w_if, s_seq, s_if, s_ret, s_exp, s_skip, s_cont, s_break, s_raise, s_set, s_par, startE, List.map_cons, List.map_nil, List.length_cons, List.length_nil, List.replicate, List.cons_append, List.nil_append, List.getElem?_cons_zero, List.getElem?_cons_succ, List.set_cons_zero, List.set_cons_succ, Option.some.injEq, exists_eq_left', exists_eq_left, true_and, and_true, Nat.zero_le, List.zip_cons_cons, List.zip_nil_right, List.foldl_cons, List.foldl_nil]
  rw [o_sortD h1 (pl_kI K) (by rw [kI_len]; omega) (kI_le _)]
  refine .inr (.inl ⟨_, _, rfl, getR_l push_same, (kI K.e).map Vl.int, (tE (K.pl 0)).map fun p : Nat × Vl => Vl.tup [.int (p.1 : Int), p.2], ?_, ?_, ?_, ?_, ?_⟩)
  · rw [List.length_map, List.length_map, kI_len, tE, List.length_map, pl_len]
  · rw [List.length_map, kI_len]; omega
  · intro i S2 _ g
    exact nxL_at (getR_l ((g.at_ _ (Nat.zero_le _) (Nat.lt_succ_self _)).trans push_same))
  · intro i x y S2 hx hy g
    have hi : i < K.e := by
      have := (List.getElem?_eq_some_iff.mp hx).1
      rwa [List.length_map, kI_len] at this
    rw [List.getElem?_map, kI_at hi] at hx
    cases hx
    obtain ⟨ps, k1, k2⟩ := pl_at hi
    rw [List.getElem?_map, tE, List.getElem?_map, k1] at hy
    cases hy
    refine ⟨_, rfl, ?_⟩
    simp only [w_true, true_and]
    refine ⟨Gr.refl, ?_⟩
    simp only [w_lst, w_tup, s_aug, w_caught, w_slot, w_c, w_nil, w_cons, w_bin, w_bi, w_tst, w_not, w_and, w_or, w_ite, w_andV, w_orV, w_call, w_callK, w_met, w_ok, wo_some, wo_if, w_if, s_seq, s_if, s_ret, s_exp, s_skip, s_cont, s_break, s_raise, s_set, s_par, startE, List.map_cons, List.map_nil, List.length_cons, List.length_nil, List.replicate, List.cons_append, List.nil_append, List.getElem?_cons_zero, List.getElem?_cons_succ, List.set_cons_zero, List.set_cons_succ, Option.some.injEq, exists_eq_left', exists_eq_left, true_and, and_true, Nat.zero_le, List.zip_cons_cons, List.zip_nil_right, List.foldl_cons, List.foldl_nil, wipeE]
    have h2 : S2.at_ S.n = .dic false (dEn (tE (K.pl 0))) := ((Gr.push.trans g).at_ _ (Nat.zero_le _) n1).trans h1
    rw [o_key h2 rfl (pl_get k2)]
    exact ⟨by decide, rfl, Gr.refl⟩
  · intro S2 g2 hn2 hs
    rw [o_dictP (getR_l hs) (asPairs_en _)]
    have e : mergeD [] (dEn (tE (K.pl 0))) = dEn (tE (K.pl 0)) := mergeD_en (l := []) (m := tE (K.pl 0)) (by simpa using pl_nodup K)
    have g3 : Gr 0 S S2 := (g1.trans Gr.push).trans g2
    exact ⟨S2.n, rfl, g3.n, Nat.lt_succ_self _, by rw [push_same, e], g3.trans Gr.push⟩
theorem parts_w {n : Nat} {S : Sto} {K : Kd} (h : K.e ≤ 60) (hn : K.e + 7 ≤ n) : wpe ((lev n).1 10 [K.v] S) noE fun r S' => ∃ d, r = .ref d ∧ S.n ≤ d ∧ d < S'.n ∧ S'.at_ d = .dic false (dEn (tE (K.pl 0))) ∧ Gr 0 S S' := by
  obtain ⟨n, rfl⟩ : ∃ n', n = n' + 4 := ⟨n - 4, by omega⟩
  rw [lv_parts]
  refine w_run rfl ?_
  unfold b_parts
  simp only [w_lst, w_tup, s_aug, w_caught, w_slot, w_c, w_nil, w_cons, w_bin, w_bi, w_tst, w_not, w_and, w_or, w_ite, w_andV, w_orV, w_call, w_callK, w_met, w_ok, wo_some, wo_if, w_if, s_seq, s_if, s_ret, s_exp, s_skip, s_cont, s_break, s_raise, s_set, s_par, startE, List.map_cons, List.map_nil, List.length_cons, List.length_nil, List.replicate, List.cons_append, List.nil_append, List.getElem?_cons_zero, List.getElem?_cons_succ, List.set_cons_zero, List.set_cons_succ, Option.some.injEq, exists_eq_left', exists_eq_left, true_and, and_true, Nat.zero_le, List.zip_cons_cons, List.zip_nil_right, List.foldl_cons, List.foldl_nil]
  refine wpe_mono (need_kind_w (lo := 0) ⟨_, K.dat⟩) (fun r S1 z => ?_) (fun _ _ _ _ z => by rw [isKd_t h] at z; cases z.2)
  obtain ⟨_, g1⟩ := z
  refine wpe_mono (parts_of_ends_w (n := n + 3) h (by omega)) ?_ (fun _ _ _ _ z => z.elim)
  rintro _ S2 ⟨d, rfl, h1, h2, h3, g2⟩
  exact ⟨d, rfl, Nat.le_trans g1.n h1, h2, h3, g1.trans g2⟩
def isWh : Vl → Bool
  | .int _ => true
  | _ => false
theorem is_whole_w {n : Nat} {S : Sto} {v : Vl} (hv : tyOk S v) : wpe ((lev (n + 1)).1 0 [v] S) noE fun r S' => r = .bl (isWh v) ∧ S' = S := by
  obtain ⟨t, ht⟩ := hv
  rw [lv_is_whole]
  refine w_run rfl ?_
  unfold b_is_whole
  simp only [w_lst, w_tup, s_aug, w_caught, w_slot, w_c, w_nil, w_cons, w_bin, w_bi, w_tst, w_not, w_and, w_or, w_ite, w_andV, w_orV, w_call, w_callK, w_met, w_ok, wo_some, wo_if, w_if, s_seq, s_if, s_ret, s_exp, s_skip, s_cont, s_break, s_raise, s_set, s_par, startE, List.map_cons, List.map_nil, List.length_cons, List.length_nil, List.replicate, List.cons_append, List.nil_append, List.getElem?_cons_zero, List.getElem?_cons_succ, List.set_cons_zero, List.set_cons_succ, Option.some.injEq, exists_eq_left', exists_eq_left, true_and, and_true, Nat.zero_le, List.zip_cons_cons, List.zip_nil_right, List.foldl_cons, List.foldl_nil, w_notV]
  rw [o_isi ht]
  cases v with
  | int i =>
    cases ht
    refine ⟨_, rfl, ?_⟩
    rw [if_pos (by decide), o_isi (S := S) (v := .int i) rfl]
    exact ⟨_, rfl, rfl, rfl⟩
  | bl i =>
    cases ht
    refine ⟨_, rfl, ?_⟩
    rw [if_pos (by decide), o_isi (S := S) (v := .bl i) rfl]
    exact ⟨_, rfl, rfl, rfl⟩
  | non => cases ht; exact ⟨_, rfl, by rw [if_neg (by decide)]; exact ⟨rfl, rfl⟩⟩
  | str z => cases ht; exact ⟨_, rfl, by rw [if_neg (by decide)]; exact ⟨rfl, rfl⟩⟩
  | tup z => cases ht; exact ⟨_, rfl, by rw [if_neg (by decide)]; exact ⟨rfl, rfl⟩⟩
  | ref z =>
    rcases ty_refs ht with ⟨rfl, _⟩ | ⟨rfl, _⟩
    · exact ⟨_, rfl, by rw [if_neg (by decide)]; exact ⟨rfl, rfl⟩⟩
    · exact ⟨_, rfl, by rw [if_neg (by decide)]; exact ⟨rfl, rfl⟩⟩
  | _ => cases ht
def isEnd (K : Kd) : Vl → Bool
  | .int i => decide (0 ≤ i) && decide (i < K.e)
  | _ => false
theorem is_end_w {n : Nat} {S : Sto} {K : Kd} {v : Vl} (hv : tyOk S v) (h : K.e ≤ 60) (hn : K.e + 6 ≤ n) : wpe ((lev n).1 11 [K.v, v] S) noE fun r S' => r = .bl (isEnd K v) ∧ Gr 0 S S' := by
  obtain ⟨n, rfl⟩ : ∃ n', n = n' + 2 := ⟨n - 2, by omega⟩
  have hh := ht_e K
  rw [lv_is_end]
  refine w_run rfl ?_
  unfold b_is_end
  simp only [w_lst, w_tup, s_aug, w_caught, w_slot, w_c, w_nil, w_cons, w_bin, w_bi, w_tst, w_not, w_and, w_or, w_ite, w_andV, w_orV, w_call, w_callK, w_met, w_ok, wo_some, wo_if, w_if, s_seq, s_if, s_ret, s_exp, s_skip, s_cont, s_break, s_raise, s_set, s_par, startE, List.map_cons, List.map_nil, List.length_cons, List.length_nil, List.replicate, List.cons_append, List.nil_append, List.getElem?_cons_zero, List.getElem?_cons_succ, List.set_cons_zero, List.set_cons_succ, Option.some.injEq, exists_eq_left', exists_eq_left, true_and, and_true, Nat.zero_le, List.zip_cons_cons, List.zip_nil_right, List.foldl_cons, List.foldl_nil, w_chain]
  refine wpe_mono (is_whole_w (n := n) hv) ?_ (fun _ _ _ _ z => z.elim)
  rintro _ S1 ⟨rfl, rfl⟩
  refine ⟨_, rfl, ?_⟩
  cases v with
  | int i =>
    rw [if_pos (show isWh (.int i) = true from rfl), o_le]
    refine ⟨_, rfl, ?_⟩
    by_cases hi : 0 ≤ i
    · rw [if_pos (decide_eq_true hi)]
      refine wpe_mono (many_ends_w K.ht K S1 (n + 1) (Nat.le_refl _) (by omega) (by omega)) ?_ (fun _ _ _ _ z => z.elim)
      rintro _ S2 ⟨rfl, g2⟩
      rw [o_lt]
      exact ⟨by simp [isEnd, hi], g2⟩
    · rw [if_neg (by simpa using hi)]
      exact ⟨by simp [isEnd, hi], Gr.refl⟩
  | _ => rw [if_neg (by simp [isWh])]; exact ⟨rfl, Gr.refl⟩
end G

set_option linter.all false
set_option maxRecDepth 100000
set_option maxHeartbeats 4000000
namespace G
open PySem PySem.Spec PyProof.Rows L2 Q

theorem own_hit : ∀ {L : List (Nat × List Nat)} {k i : Nat} {x : Nat × List Nat}, L[k]? = some x → (∀ j y, j < k → L[j]? = some y → y.2.contains i = false) → x.2.contains i = true → ∃ r, own L i = x.1 :: r
  | [], k, i, x, hx, _, _ => by simp at hx
  | p :: L, 0, i, x, hx, _, h2 => by
    cases hx
    refine ⟨own L i, ?_⟩
    simp only [own, List.filter_cons, h2, if_true, List.map_cons]
  | p :: L, k + 1, i, x, hx, h1, h2 => by
    have h0 := h1 0 p (Nat.succ_pos _) rfl
    obtain ⟨r, hr⟩ := own_hit (L := L) (k := k) (i := i) (x := x) (by simpa using hx) (fun j y hj hy => h1 (j + 1) y (by omega) (by simpa using hy)) h2
    refine ⟨r, ?_⟩
    rw [← hr]
    simp only [own, List.filter_cons, h0, if_false, Bool.false_eq_true]
theorem own_no {L : List (Nat × List Nat)} {i : Nat} (h : ∀ (j : Nat) (y : Nat × List Nat), L[j]? = some y → y.2.contains i = false) : own L i = [] := by
  unfold own
  rw [List.map_eq_nil_iff, List.filter_eq_nil_iff]
  intro y hy
  obtain ⟨j, hj⟩ := List.getElem?_of_mem hy
  rw [h j y hj]
  decide
theorem asI_iV (ps : List Nat) : asInts (iV ps) = some (ps.map fun i : Nat => (i : Int)) := by
  have e : iV ps = (ps.map fun i : Nat => (i : Int)).map Vl.int := by unfold iV; rw [List.map_map]; rfl
  rw [e]
  exact asInts_map _
theorem cast_contains (ps : List Nat) (i : Nat) : (ps.map fun i : Nat => (i : Int)).contains (i : Int) = ps.contains i := by
  rw [Bool.eq_iff_iff, List.contains_iff_mem, List.contains_iff_mem, List.mem_map]
  exact ⟨fun ⟨a, h1, h2⟩ => by have : a = i := by omega
                               rw [← this]; exact h1, fun h => ⟨i, h, rfl⟩⟩
def kpV (K : Kd) (i : Nat) : Vl := match own (K.pl 0) i with
  | [] => .non
  | j :: _ => .int (j : Int)
theorem keeper_w {n i : Nat} {S : Sto} {K : Kd} (h : K.e ≤ 60) (hi : i < K.e) (hn : K.e + 8 ≤ n) : wpe ((lev n).1 12 [K.v, .int i] S) noE fun r S' => r = kpV K i ∧ Gr 0 S S' := by
  obtain ⟨n, rfl⟩ : ∃ n', n = n' + 4 := ⟨n - 4, by omega⟩
  rw [lv_keeper]
  refine w_run rfl ?_
  unfold b_keeper
  refine s_cut (fun ρ S1 => ρ = [some K.v, some (.int i), none, none] ∧ Gr 0 S S1) ?_ ?_
  · simp only [w_lst, w_tup, s_aug, w_caught, w_slot, w_c, w_nil, w_cons, w_bin, w_bi, w_tst, w_not, w_and, w_or, w_ite, w_andV, w_orV, w_call, w_callK, w_met, w_ok, wo_some, wo_if, w_if, s_seq, s_if, s_ret, s_exp, s_skip, s_cont, s_break, s_raise, s_set, s_par, startE, List.map_cons, List.map_nil, List.length_cons, List.length_nil, List.replicate, List.cons_append, List.nil_append, List.getElem?_cons_zero, List.getElem?_cons_succ, List.set_cons_zero, List.set_cons_succ, Option.some.injEq, exists_eq_left', exists_eq_left, true_and, and_true, Nat.zero_le, List.zip_cons_cons, List.zip_nil_right, List.foldl_cons, List.foldl_nil]
    refine wpe_mono (need_kind_w (lo := 0) ⟨_, K.dat⟩) (fun r S1 z => ?_) (fun _ _ _ _ z => by rw [isKd_t h] at z; cases z.2)
    exact z.2
  rintro _ S1 ⟨rfl, g1⟩
  refine s_cut (fun ρ S1 => ρ = [some K.v, some (.int i), none, none] ∧ Gr 0 S S1) ?_ ?_
  · simp only [w_lst, w_tup, s_aug, w_caught, w_slot, w_c, w_nil, w_cons, w_bin, w_bi, w_tst, w_not, w_and, w_or, w_ite, w_andV, w_orV, w_call, w_callK, w_met, w_ok, wo_some, wo_if, w_if, s_seq, s_if, s_ret, s_exp, s_skip, s_cont, s_break, s_raise, s_set, s_par, startE, List.map_cons, List.map_nil, List.length_cons, List.length_nil, List.replicate, List.cons_append, List.nil_append, List.getElem?_cons_zero, List.getElem?_cons_succ, List.set_cons_zero, List.set_cons_succ, Option.some.injEq, exists_eq_left', exists_eq_left, true_and, and_true, Nat.zero_le, List.zip_cons_cons, List.zip_nil_right, List.foldl_cons, List.foldl_nil]
    refine wpe_mono (is_end_w (n := n + 3) (K := K) (v := .int i) ⟨_, rfl⟩ h (by omega)) ?_ (fun _ _ _ _ z => z.elim)
    rintro _ S2 ⟨rfl, g2⟩
    refine ⟨_, rfl, ?_⟩
    have e : isEnd K (.int i) = true := by unfold isEnd; simp; omega
    rw [e, if_neg (by decide)]
    exact g1.trans g2
  rintro _ S2 ⟨rfl, g2⟩
  refine s_cut (fun ρ S1 => ∃ d, ρ = [some K.v, some (.int i), some (.ref d), none] ∧ S.n ≤ d ∧ d < S1.n ∧ S1.at_ d = .dic false (dEn (tE (K.pl 0))) ∧ Gr 0 S S1) ?_ ?_
  · simp only [w_lst, w_tup, s_aug, w_caught, w_slot, w_c, w_nil, w_cons, w_bin, w_bi, w_tst, w_not, w_and, w_or, w_ite, w_andV, w_orV, w_call, w_callK, w_met, w_ok, wo_some, wo_if, w_if, s_seq, s_if, s_ret, s_exp, s_skip, s_cont, s_break, s_raise, s_set, s_par, startE, List.map_cons, List.map_nil, List.length_cons, List.length_nil, List.replicate, List.cons_append, List.nil_append, List.getElem?_cons_zero, List.getElem?_cons_succ, List.set_cons_zero, List.set_cons_succ, Option.some.injEq, exists_eq_left', exists_eq_left, true_and, and_true, Nat.zero_le, List.zip_cons_cons, List.zip_nil_right, List.foldl_cons, List.foldl_nil]
    refine wpe_mono (parts_of_ends_w (n := n + 3) h (by omega)) ?_ (fun _ _ _ _ z => z.elim)
    rintro _ S3 ⟨d, rfl, h1, h2, h3, g3⟩
    exact ⟨d, rfl, Nat.le_trans g2.n h1, h2, h3, g2.trans g3⟩
  rintro _ S3 ⟨d, rfl, h1, h2, h3, g3⟩
  refine s_cut (fun ρ S1 => own (K.pl 0) i = [] ∧ Gr 0 S S1) ?_ ?_
  · refine s_lock (n := d) rfl h3 ?_
    refine s_for ?_
    refine w_itK ?_
    rw [w_slot]
    refine ⟨_, rfl, d, _, rfl, set_same, ?_⟩
    refine ⟨(dEn (tE (K.pl 0))).map (·.1), fun k ρ S4 => (∃ a3, ρ = [some K.v, some (.int i), some (.ref d), a3]) ∧ S4 = S3.set d (.dic true (dEn (tE (K.pl 0)))) ∧ ∀ j y, j < k → (K.pl 0)[j]? = some y → y.2.contains i = false, ⟨⟨none, rfl⟩, rfl, fun j _ hj => absurd hj (Nat.not_lt_zero _)⟩, fun _ _ _ _ _ => rfl, ?_, ?_⟩
    · rintro k x ρ S4 hx ⟨⟨a3, rfl⟩, rfl, hno⟩
      have hk : k < K.e := by
        have := (List.getElem?_eq_some_iff.mp hx).1
        rwa [List.length_map, dEn_len, tE, List.length_map, pl_len] at this
      rw [pl_kI, List.getElem?_map, kI_at hk] at hx
      cases hx
      obtain ⟨ps, k1, k2⟩ := pl_at hk
      simp only [gNm, w_lst, w_tup, s_aug, w_caught, w_slot, w_c, w_nil, w_cons, w_bin, w_bi, w_tst, w_not, w_and, w_or, w_ite, w_andV, w_orV, w_call, w_callK, w_met, w_ok, wo_some, wo_if, w_if, s_seq, s_if, s_ret, s_exp, s_skip, s_cont, s_break, s_raise, s_set, s_par, startE, List.map_cons, List.map_nil, List.length_cons, List.length_nil, List.replicate, List.cons_append, List.nil_append, List.getElem?_cons_zero, List.getElem?_cons_succ, List.set_cons_zero, List.set_cons_succ, Option.some.injEq, exists_eq_left', exists_eq_left, true_and, and_true, Nat.zero_le, List.zip_cons_cons, List.zip_nil_right, List.foldl_cons, List.foldl_nil]
      rw [o_key (lk := true) set_same rfl (pl_get k2), o_inT (asI_iV ps), cast_contains]
      refine ⟨_, rfl, ?_⟩
      cases hc : ps.contains i with
      | true =>
        rw [if_pos rfl]
        obtain ⟨r, hr⟩ := own_hit k1 hno hc
        refine ⟨_, set_same, ?_, (g3.set_new h1).set_new h1⟩
        unfold kpV
        rw [hr]
      | false =>
        rw [if_neg (by decide)]
        refine ⟨⟨_, rfl⟩, rfl, ?_⟩
        intro j y hj hy
        by_cases e : j = k
        · rw [e, k1] at hy
          cases hy
          exact hc
        · exact hno j y (by omega) hy
    · rintro ρ S4 ⟨_, rfl, hno⟩
      refine ⟨_, set_same, own_no fun j y hy => hno j y ?_ hy, (g3.set_new h1).set_new h1⟩
      have := (List.getElem?_eq_some_iff.mp hy).1
      rw [List.length_map, dEn_len, tE, List.length_map]
      exact this
  · rintro ρ S4 ⟨ho, g4⟩
    rw [s_ret]
    refine ⟨?_, g4⟩
    unfold kpV
    rw [ho]
theorem keeper_end {n : Nat} {S : Sto} {K : Kd} {v : Vl} (hv : ∀ S, tyOk S v) (he : isEnd K v = false) (h : K.e ≤ 60) (hn : K.e + 8 ≤ n) : wpe ((lev n).1 12 [K.v, v] S) (badE S "BadEnd") fun _ _ => False := by
  obtain ⟨n, rfl⟩ : ∃ n', n = n' + 4 := ⟨n - 4, by omega⟩
  rw [lv_keeper]
  refine w_run rfl ?_
  unfold b_keeper
  simp only [w_lst, w_tup, s_aug, w_caught, w_slot, w_c, w_nil, w_cons, w_bin, w_bi, w_tst, w_not, w_and, w_or, w_ite, w_andV, w_orV, w_call, w_callK, w_met, w_ok, wo_some, wo_if, w_if, s_seq, s_if, s_ret, s_exp, s_skip, s_cont, s_break, s_raise, s_set, s_par, startE, List.map_cons, List.map_nil, List.length_cons, List.length_nil, List.replicate, List.cons_append, List.nil_append, List.getElem?_cons_zero, List.getElem?_cons_succ, List.set_cons_zero, List.set_cons_succ, Option.some.injEq, exists_eq_left', exists_eq_left, true_and, and_true, Nat.zero_le, List.zip_cons_cons, List.zip_nil_right, List.foldl_cons, List.foldl_nil]
  refine wpe_mono (need_kind_w (lo := 0) ⟨_, K.dat⟩) (fun r S1 z => ?_) (fun _ _ _ _ z => by rw [isKd_t h] at z; cases z.2)
  obtain ⟨_, g1⟩ := z
  refine wpe_mono (is_end_w (n := n + 3) (K := K) (v := v) (hv _) h (by omega)) ?_ (fun _ _ _ _ z => z.elim)
  rintro _ S2 ⟨rfl, g2⟩
  refine ⟨_, rfl, ?_⟩
  rw [he, if_pos (by decide)]
  exact ⟨rfl, rfl, rfl, g1.trans g2⟩
end G

set_option linter.all false
set_option maxRecDepth 100000
set_option maxHeartbeats 4000000
namespace G
open PySem PySem.Spec PyProof.Rows L2 Q

theorem any_w : ∀ (D : Nat) {lo d g c T m : Nat} {S : Sto}, D ≤ 20 → St lo d g c T S → T + 2 ^ (D + 1) < bigT → D + 4 ≤ m →
    wpe ((lev m).1 23 [.ref d, .int D] S) noE fun v S' => ∃ K : Kd, v = K.v ∧ K.e ≤ 2 ^ D ∧ St lo d g c (T + (2 ^ (D + 1) - 1)) S' ∧ Gr lo S S'
  | 0, lo, d, g, c, T, m, S, hD, s, hT, hm => by
    obtain ⟨m, rfl⟩ : ∃ m', m = m' + 3 := ⟨m - 3, by omega⟩
    rw [lv__law_hd_any_kind]
    refine w_run rfl ?_
    unfold b__law_hd_any_kind
    simp only [w_lst, w_tup, s_aug, w_caught, w_slot, w_c, w_nil, w_cons, w_bin, w_bi, w_tst, w_not, w_and, w_or, w_ite, w_andV, w_orV, w_call, w_callK, w_met, w_ok, wo_some, wo_if, w_if, s_seq, s_if, s_ret, s_exp, s_skip, s_cont, s_break, s_raise, s_set, s_par, startE, List.map_cons, List.map_nil, List.length_cons, List.length_nil, List.replicate, List.cons_append, List.nil_append, List.getElem?_cons_zero, List.getElem?_cons_succ, List.set_cons_zero, List.set_cons_succ, Option.some.injEq, exists_eq_left', exists_eq_left, true_and, and_true, Nat.zero_le, List.zip_cons_cons, List.zip_nil_right, List.foldl_cons, List.foldl_nil, o_eqi]
    refine ⟨_, rfl, ?_⟩
    rw [if_pos (show (((0 : Nat) : Int) == 0) = true from rfl)]
    simp only [if_true]
    exact ⟨sz1, .text, rfl, by decide, s.mono (by omega), Gr.refl⟩
  | D + 1, lo, d, g, c, T, m, S, hD, s, hT, hm => by
    obtain ⟨m, rfl⟩ : ∃ m', m = m' + 3 := ⟨m - 3, by omega⟩
    have hp : 0 < 2 ^ (D + 1) := Nat.two_pow_pos _
    have h2 : 2 ^ (D + 1 + 1) = 2 * 2 ^ (D + 1) := by rw [Nat.pow_succ]; omega
    have h3 : 2 ^ (D + 1) = 2 * 2 ^ D := by rw [Nat.pow_succ]; omega
    have hp0 : 0 < 2 ^ D := Nat.two_pow_pos _
    rw [lv__law_hd_any_kind]
    refine w_run rfl ?_
    unfold b__law_hd_any_kind
    simp only [w_lst, w_tup, s_aug, w_caught, w_slot, w_c, w_nil, w_cons, w_bin, w_bi, w_tst, w_not, w_and, w_or, w_ite, w_andV, w_orV, w_call, w_callK, w_met, w_ok, wo_some, wo_if, w_if, s_seq, s_if, s_ret, s_exp, s_skip, s_cont, s_break, s_raise, s_set, s_par, startE, List.map_cons, List.map_nil, List.length_cons, List.length_nil, List.replicate, List.cons_append, List.nil_append, List.getElem?_cons_zero, List.getElem?_cons_succ, List.set_cons_zero, List.set_cons_succ, Option.some.injEq, exists_eq_left', exists_eq_left, true_and, and_true, Nat.zero_le, List.zip_cons_cons, List.zip_nil_right, List.foldl_cons, List.foldl_nil, o_eqi]
    refine ⟨_, rfl, ?_⟩
    have e1 : (((D + 1 : Nat) : Int) == 0) = false := by simp; omega
    rw [e1, if_neg (by decide)]
    refine wpe_mono (draw_w s (by omega) (by decide) (by decide)) ?_ (fun _ _ _ _ z => z.elim)
    rintro _ S1 ⟨k, rfl, hk, s1, g1⟩
    rw [o_eqi]
    refine ⟨_, rfl, ?_⟩
    cases h0 : ((k : Int) == 0) with
    | true =>
      simp only [if_true]
      exact ⟨sz1, .text, rfl, by show 1 ≤ 2 ^ (D + 1); omega, s1.mono (by omega), g1⟩
    | false =>
      simp only [if_false, Bool.false_eq_true]
      have ed : ((D + 1 : Nat) : Int) - 1 = (D : Int) := by push_cast; omega
      rw [o_sub, ed]
      refine wpe_mono (any_w D (m := m + 2) (by omega) s1 (by omega) (by omega)) ?_ (fun _ _ _ _ z => z.elim)
      rintro _ S2 ⟨A, rfl, hA, s2, g2⟩
      rw [o_sub, ed]
      refine wpe_mono (any_w D (m := m + 2) (by omega) s2 (by omega) (by omega)) ?_ (fun _ _ _ _ z => z.elim)
      rintro _ S3 ⟨B, rfl, hB, s3, g3⟩
      exact ⟨by decide, .to A B, rfl, by show A.e + B.e ≤ _; omega, s3.mono (by omega), (g1.trans g2).trans g3⟩
/-- the values that are no kinds -/
def badL (n1 n2 : Nat) (K : Kd) : List Vl := [.non, .int 5, .str "text", .tup [], .tup [.str "text", .int 1], .ref n1, .tup [.str "to", .tup [.str "text"]], .tup [.str "to", .tup [.str "text"], .non], .tup [.str "from", .tup [.str "text"], .tup [.str "text"]]] ++
  [K.v, .tup [.str "to", .ref n2, .tup [.str "text"]], .tup [.str "to", .tup [.str "text"], .tup [.str "text"], .tup [.str "text"]], .tup [.tup [.str "text"]], .bl true]
theorem badL_bad {n1 n2 : Nat} {K : Kd} (hK : 60 < K.e) : ∀ v ∈ badL n1 n2 K, isKd v = false := by
  intro v hv
  simp only [badL, List.mem_append, List.mem_cons, List.not_mem_nil, or_false] at hv
  rcases hv with (rfl | rfl | rfl | rfl | rfl | rfl | rfl | rfl | rfl) | (rfl | rfl | rfl | rfl | rfl)
  case inr.inl => exact isKd_f hK
  all_goals refine isKd_none ?_
  all_goals first | rfl | (rw [kdE]; done) | (simp [kdE, ne_ft])
theorem badL_dat {lo n1 n2 : Nat} {K : Kd} {E : Sto} (h1 : lo ≤ n1) (h2 : n1 < E.n) (h3 : E.at_ n1 = .lst [.str "text"]) (k1 : lo ≤ n2) (k2 : n2 < E.n) (k3 : E.at_ n2 = .lst [.str "text"]) : ∀ v ∈ badL n1 n2 K, ∃ e, Dat lo E 5 v e := by
  intro v hv
  have tx : Dat lo E 5 (.str "text") (.str "text") := .str _ ok_text
  have to_ : Dat lo E 5 (.str "to") (.str "to") := .str _ ok_to
  have t1 : Dat lo E 5 (.tup [.str "text"]) (.tuple [.str "text"]) := .tup (.cons tx .nil)
  have r1 : Dat lo E 5 (.ref n1) (.list [.str "text"]) := .lst h1 h2 h3 (.cons (.str _ ok_text) .nil)
  have r2 : Dat lo E 5 (.ref n2) (.list [.str "text"]) := .lst k1 k2 k3 (.cons (.str _ ok_text) .nil)
  simp only [badL, List.mem_append, List.mem_cons, List.not_mem_nil, or_false] at hv
  rcases hv with (rfl | rfl | rfl | rfl | rfl | rfl | rfl | rfl | rfl) | (rfl | rfl | rfl | rfl | rfl)
  · exact ⟨_, .non⟩
  · exact ⟨_, .int 5⟩
  · exact ⟨_, tx⟩
  · exact ⟨_, .tup .nil⟩
  · exact ⟨_, .tup (.cons tx (.cons (.int 1) .nil))⟩
  · exact ⟨_, r1⟩
  · exact ⟨_, .tup (.cons to_ (.cons t1 .nil))⟩
  · exact ⟨_, .tup (.cons to_ (.cons t1 (.cons .non .nil)))⟩
  · exact ⟨_, .tup (.cons (.str _ ok_from) (.cons t1 (.cons t1 .nil)))⟩
  · exact ⟨_, K.dat⟩
  · exact ⟨_, .tup (.cons to_ (.cons r2 (.cons t1 .nil)))⟩
  · exact ⟨_, .tup (.cons to_ (.cons t1 (.cons t1 (.cons t1 .nil))))⟩
  · exact ⟨_, .tup (.cons t1 .nil)⟩
  · exact ⟨_, .bl true⟩
theorem bad_kind_w {n lo d g c T : Nat} {S : Sto} (s : St lo d g c T S) (hT : T < bigT) : wpe ((lev (n + 4)).1 24 [.ref d] S) noE fun v S' => isKd v = false ∧ (∃ e, Dat lo S' 5 v e) ∧ St lo d g c (T + 1) S' ∧ Gr lo S S' := by
  rw [lv__law_hd_bad_kind]
  refine w_run rfl ?_
  unfold b__law_hd_bad_kind
  have lo2 : lo ≤ S.n := s.ln
  generalize hL : ([.non, .int 5, .str "text", .tup [], .tup [.str "text", .int 1], .ref S.n, .tup [.str "to", .tup [.str "text"]], .tup [.str "to", .tup [.str "text"], .non], .tup [.str "from", .tup [.str "text"], .tup [.str "text"]]] : List Vl) = L
  refine s_cut (fun ρ S1 => ρ = [some (.ref d), some (.ref (S.n + 1)), none, none] ∧ S1 = (S.push (.lst [.str "text"])).push (.lst L)) ?_ ?_
  · simp only [w_lst, w_tup, s_aug, w_caught, w_slot, w_c, w_nil, w_cons, w_bin, w_bi, w_tst, w_not, w_and, w_or, w_ite, w_andV, w_orV, w_call, w_callK, w_met, w_ok, wo_some, wo_if, w_if, s_seq, s_if, s_ret, s_exp, s_skip, s_cont, s_break, s_raise, s_set, s_par, startE, List.map_cons, List.map_nil, List.length_cons, List.length_nil, List.replicate, List.cons_append, List.nil_append, List.getElem?_cons_zero, List.getElem?_cons_succ, List.set_cons_zero, List.set_cons_succ, Option.some.injEq, exists_eq_left', exists_eq_left, true_and, and_true, Nat.zero_le, List.zip_cons_cons, List.zip_nil_right, List.foldl_cons, List.foldl_nil]
    refine ⟨by decide, by decide, by decide, by decide, by decide, by decide, by decide, by decide, by decide, by decide, rfl, ?_⟩
    rw [← hL]
  rintro _ _ ⟨rfl, rfl⟩
  generalize hS1 : (S.push (.lst [.str "text"])).push (.lst L) = S1
  have g1 : Gr 0 S S1 := by rw [← hS1]; exact Gr.push.trans Gr.push
  have n1 : S1.n = S.n + 2 := by rw [← hS1]; rfl
  have a1 : S1.at_ S.n = .lst [.str "text"] := by rw [← hS1]; exact (push_lt (Nat.lt_succ_self _)).trans push_same
  have a2 : S1.at_ (S.n + 1) = .lst L := by rw [← hS1]; exact push_same
  refine s_cut (fun ρ S2 => ρ = [some (.ref d), some (.ref (S.n + 1)), some (chain 0).v, none] ∧ S2 = S1) ?_ ?_
  · simp only [w_lst, w_tup, s_aug, w_caught, w_slot, w_c, w_nil, w_cons, w_bin, w_bi, w_tst, w_not, w_and, w_or, w_ite, w_andV, w_orV, w_call, w_callK, w_met, w_ok, wo_some, wo_if, w_if, s_seq, s_if, s_ret, s_exp, s_skip, s_cont, s_break, s_raise, s_set, s_par, startE, List.map_cons, List.map_nil, List.length_cons, List.length_nil, List.replicate, List.cons_append, List.nil_append, List.getElem?_cons_zero, List.getElem?_cons_succ, List.set_cons_zero, List.set_cons_succ, Option.some.injEq, exists_eq_left', exists_eq_left, true_and, and_true, Nat.zero_le, List.zip_cons_cons, List.zip_nil_right, List.foldl_cons, List.foldl_nil]
    first | exact ⟨sz1, rfl, rfl⟩ | exact ⟨sz1, rfl⟩ | exact sz1
  rintro _ S1 ⟨rfl, rfl⟩
  refine s_cut (fun ρ S2 => ∃ e, ρ = [some (.ref d), some (.ref (S.n + 1)), some (chain 60).v, e] ∧ S2 = S1) ?_ ?_
  · refine s_for ?_
    simp only [w_itR1, w_cons, w_c, w_nil]
    refine ⟨60, rfl, by decide, by decide, rng 60, fun i ρ S2 => ∃ e : Option Vl, ρ = [some (.ref d), some (.ref (S.n + 1)), some (chain i).v, e] ∧ S2 = S1, ⟨none, rfl, rfl⟩, fun i ρ S2 _ _ => rng_at, ?_, ?_⟩
    · rintro i x ρ S1 hx ⟨e, rfl, rfl⟩
      simp only [gNm, w_lst, w_tup, s_aug, w_caught, w_slot, w_c, w_nil, w_cons, w_bin, w_bi, w_tst, w_not, w_and, w_or, w_ite, w_andV, w_orV, w_call, w_callK, w_met, w_ok, wo_some, wo_if, w_if, s_seq, s_if, s_ret, s_exp, s_skip, s_cont, s_break, s_raise, s_set, s_par, startE, List.map_cons, List.map_nil, List.length_cons, List.length_nil, List.replicate, List.cons_append, List.nil_append, List.getElem?_cons_zero, List.getElem?_cons_succ, List.set_cons_zero, List.set_cons_succ, Option.some.injEq, exists_eq_left', exists_eq_left, true_and, and_true, Nat.zero_le, List.zip_cons_cons, List.zip_nil_right, List.foldl_cons, List.foldl_nil]
      first | exact ⟨by decide, by decide, some x, rfl⟩ | exact ⟨by decide, by decide, some x, rfl, rfl⟩
    · rintro ρ S1 ⟨e, rfl, rfl⟩
      exact ⟨e, rfl, rfl⟩
  rintro _ S1 ⟨e, rfl, rfl⟩
  simp only [w_lst, w_tup, s_aug, w_caught, w_slot, w_c, w_nil, w_cons, w_bin, w_bi, w_tst, w_not, w_and, w_or, w_ite, w_andV, w_orV, w_call, w_callK, w_met, w_ok, wo_some, wo_if, w_if, s_seq, s_if, s_ret, s_exp, s_skip, s_cont, s_break, s_raise, s_set, s_par, startE, List.map_cons, List.map_nil, List.length_cons, List.length_nil, List.replicate, List.cons_append, List.nil_append, List.getElem?_cons_zero, List.getElem?_cons_succ, List.set_cons_zero, List.set_cons_succ, Option.some.injEq, exists_eq_left', exists_eq_left, true_and, and_true, Nat.zero_le, List.zip_cons_cons, List.zip_nil_right, List.foldl_cons, List.foldl_nil]
  refine ⟨by decide, by decide, by decide, by decide, by decide, by decide, by decide, by decide, by decide, by decide, ?_⟩
  generalize hK : chain 60 = K
  have hKe : 60 < K.e := by rw [← hK, chain_e]; decide
  have hLl : L.length = 9 := by rw [← hL]; rfl
  rw [o_addl ((push_lt (by show S.n + 1 < S1.n + 1; omega)).trans ((push_lt (by omega)).trans a2)) push_same]
  refine ⟨by rw [hLl]; show 9 + 5 ≤ sizeLine; decide, ?_⟩
  refine wpe_mono (pick_w (lo := lo) (((((s.gr g1).gr Gr.push).gr Gr.push)).gr Gr.push) hT push_same (by show lo ≤ S1.n + 1 + 1; omega) (Nat.lt_succ_self _) (by simp) (by rw [List.length_append, hLl]; show 9 + 5 < 1000000; decide)) ?_ (fun _ _ _ _ z => z.elim)
  rintro v S3 ⟨hv, s3, g3⟩
  have hv : v ∈ badL S.n S1.n K := by rw [← hL] at hv; exact hv
  refine ⟨badL_bad hKe v hv, ?_, s3, (((g1.up (Nat.zero_le _)).trans (Gr.push.trans Gr.push)).trans Gr.push).trans g3⟩
  obtain ⟨e, he⟩ := badL_dat (lo := lo) (n1 := S.n) (n2 := S1.n) (K := K) lo2 (by show S.n < S1.n + 1 + 1 + 1; omega)
    ((push_lt (by show S.n < S1.n + 1 + 1; omega)).trans ((push_lt (by show S.n < S1.n + 1; omega)).trans ((push_lt (by omega)).trans a1)))
    (by omega) (by show S1.n < S1.n + 1 + 1 + 1; omega)
    ((push_lt (by show S1.n < S1.n + 1 + 1; omega)).trans ((push_lt (by show S1.n < S1.n + 1; omega)).trans push_same)) v hv
  exact ⟨e, he.gr g3⟩
/-- a drawn kind of at most sixty ends -/
theorem kind_w {n lo d g c T : Nat} {S : Sto} (s : St lo d g c T S) (hT : T + 200 < bigT) : wpe ((lev (n + 12)).1 25 [.ref d] S) noE fun v S' => ∃ K : Kd, v = K.v ∧ K.e ≤ 60 ∧ St lo d g c (T + 100) S' ∧ Gr lo S S' := by
  rw [lv__law_k15_kind]
  refine w_run rfl ?_
  unfold b__law_k15_kind
  refine s_cut (fun ρ S1 => ρ = [some (.ref d), none, none] ∧ St lo d g c (T + 1) S1 ∧ Gr lo S S1) ?_ ?_
  · rw [s_if, w_tst, w_bin]
    simp only [w_call, w_cons, w_slot, w_c, w_nil, startE, List.map_cons, List.map_nil, List.length_cons, List.length_nil, List.replicate, List.cons_append, List.nil_append, List.getElem?_cons_zero, Option.some.injEq, exists_eq_left']
    refine wpe_mono (draw_w s (by omega) (by decide) (by decide)) ?_ (fun _ _ _ _ z => z.elim)
    rintro _ S1 ⟨k, rfl, hk, s1, g1⟩
    rw [o_eqi]
    refine ⟨_, rfl, ?_⟩
    cases h0 : ((k : Int) == 0) with
    | false =>
      rw [if_neg (by decide), s_skip]
      exact ⟨rfl, s1, g1⟩
    | true =>
      rw [if_pos rfl]
      refine s_cut (fun ρ S2 => ρ = [some (.ref d), some Kd.text.v, none] ∧ S2 = S1) ?_ ?_
      · simp only [w_lst, w_tup, s_aug, w_caught, w_slot, w_c, w_nil, w_cons, w_bin, w_bi, w_tst, w_not, w_and, w_or, w_ite, w_andV, w_orV, w_call, w_callK, w_met, w_ok, wo_some, wo_if, w_if, s_seq, s_if, s_ret, s_exp, s_skip, s_cont, s_break, s_raise, s_set, s_par, startE, List.map_cons, List.map_nil, List.length_cons, List.length_nil, List.replicate, List.cons_append, List.nil_append, List.getElem?_cons_zero, List.getElem?_cons_succ, List.set_cons_zero, List.set_cons_succ, Option.some.injEq, exists_eq_left', exists_eq_left, true_and, and_true, Nat.zero_le, List.zip_cons_cons, List.zip_nil_right, List.foldl_cons, List.foldl_nil]
        first | exact ⟨sz1, rfl, rfl⟩ | exact ⟨sz1, rfl⟩ | exact sz1
      rintro _ S1 ⟨rfl, rfl⟩
      refine s_cut (fun ρ S2 => ∃ (K : Kd) (e : Option Vl), ρ = [some (.ref d), some K.v, e] ∧ K.e ≤ 60 ∧ St lo d g c (T + 100) S2 ∧ Gr lo S S2) ?_ ?_
      · refine s_for ?_
        simp only [w_itR1, w_lst, w_tup, s_aug, w_caught, w_slot, w_c, w_nil, w_cons, w_bin, w_bi, w_tst, w_not, w_and, w_or, w_ite, w_andV, w_orV, w_call, w_callK, w_met, w_ok, wo_some, wo_if, w_if, s_seq, s_if, s_ret, s_exp, s_skip, s_cont, s_break, s_raise, s_set, s_par, startE, List.map_cons, List.map_nil, List.length_cons, List.length_nil, List.replicate, List.cons_append, List.nil_append, List.getElem?_cons_zero, List.getElem?_cons_succ, List.set_cons_zero, List.set_cons_succ, Option.some.injEq, exists_eq_left', exists_eq_left, true_and, and_true, Nat.zero_le, List.zip_cons_cons, List.zip_nil_right, List.foldl_cons, List.foldl_nil]
        refine ⟨by decide, ?_⟩
        refine wpe_mono (pick_w (lo := lo) (s1.gr Gr.push) (by omega) push_same s1.ln (Nat.lt_succ_self _) (by simp) (by show 3 < 1000000; decide)) ?_ (fun _ _ _ _ z => z.elim)
        rintro v S2 ⟨hv, s2, g2⟩
        obtain ⟨q, hq, rfl⟩ : ∃ q : Nat, q ≤ 59 ∧ v = .int q := by
          simp only [List.mem_cons, List.not_mem_nil, or_false] at hv
          rcases hv with rfl | rfl | rfl
          · exact ⟨59, by decide, rfl⟩
          · exact ⟨30, by decide, rfl⟩
          · exact ⟨20, by decide, rfl⟩
        refine ⟨q, rfl, by omega, by omega, ?_⟩
        refine ⟨rng q, fun i ρ S3 => ∃ (K : Kd) (e : Option Vl), ρ = [some (.ref d), some K.v, e] ∧ K.e = i + 1 ∧ St lo d g c (T + 2 + i) S3 ∧ Gr lo S S3, ⟨.text, none, rfl, rfl, s2, (g1.trans Gr.push).trans g2⟩, fun i ρ S2 _ _ => rng_at, ?_, ?_⟩
        · rintro i x ρ S3 hx ⟨K, e, rfl, hK, s3, g3⟩
          obtain ⟨rfl, hi⟩ := rng_get hx
          simp only [gNm, w_lst, w_tup, s_aug, w_caught, w_slot, w_c, w_nil, w_cons, w_bin, w_bi, w_tst, w_not, w_and, w_or, w_ite, w_andV, w_orV, w_call, w_callK, w_met, w_ok, wo_some, wo_if, w_if, s_seq, s_if, s_ret, s_exp, s_skip, s_cont, s_break, s_raise, s_set, s_par, startE, List.map_cons, List.map_nil, List.length_cons, List.length_nil, List.replicate, List.cons_append, List.nil_append, List.getElem?_cons_zero, List.getElem?_cons_succ, List.set_cons_zero, List.set_cons_succ, Option.some.injEq, exists_eq_left', exists_eq_left, true_and, and_true, Nat.zero_le, List.zip_cons_cons, List.zip_nil_right, List.foldl_cons, List.foldl_nil]
          refine wpe_mono (draw_w s3 (by omega) (by decide) (by decide)) ?_ (fun _ _ _ _ z => z.elim)
          rintro _ S4 ⟨k, rfl, hk, s4, g4⟩
          rw [o_eqi]
          refine ⟨_, rfl, ?_⟩
          cases h1 : ((k : Int) == 0) with
          | true =>
            rw [if_pos (by first | rfl | decide)]
            exact ⟨by decide, by decide, .to K .text, _, rfl, by show K.e + 1 = _; omega, s4.mono (by omega), g3.trans g4⟩
          | false =>
            rw [if_neg (by decide)]
            exact ⟨by decide, by decide, .to .text K, _, rfl, by show 1 + K.e = _; omega, s4.mono (by omega), g3.trans g4⟩
        · rintro ρ S3 ⟨K, e, rfl, hK, s3, g3⟩
          rw [rng_len] at *
          exact ⟨K, e, rfl, by omega, s3.mono (by omega), g3⟩
      · rintro _ S3 ⟨K, e, rfl, hK, s3, g3⟩
        rw [s_ret, w_slot]
        exact ⟨_, rfl, K, rfl, hK, s3, g3⟩
  rintro _ S1 ⟨rfl, s1, g1⟩
  simp only [w_lst, w_tup, s_aug, w_caught, w_slot, w_c, w_nil, w_cons, w_bin, w_bi, w_tst, w_not, w_and, w_or, w_ite, w_andV, w_orV, w_call, w_callK, w_met, w_ok, wo_some, wo_if, w_if, s_seq, s_if, s_ret, s_exp, s_skip, s_cont, s_break, s_raise, s_set, s_par, startE, List.map_cons, List.map_nil, List.length_cons, List.length_nil, List.replicate, List.cons_append, List.nil_append, List.getElem?_cons_zero, List.getElem?_cons_succ, List.set_cons_zero, List.set_cons_succ, Option.some.injEq, exists_eq_left', exists_eq_left, true_and, and_true, Nat.zero_le, List.zip_cons_cons, List.zip_nil_right, List.foldl_cons, List.foldl_nil]
  refine wpe_mono (any_w 5 (m := n + 11) (by decide) s1 (by show T + 1 + 64 < _; omega) (by omega)) ?_ (fun _ _ _ _ z => z.elim)
  rintro _ S2 ⟨K, rfl, hK, s2, g2⟩
  exact ⟨K, rfl, by have : K.e ≤ 32 := hK; omega, s2.mono (by show T + 1 + (64 - 1) ≤ _; omega), g1.trans g2⟩
end G

set_option linter.all false
set_option maxRecDepth 100000
set_option maxHeartbeats 4000000
namespace G
open PySem PySem.Spec PyProof.Rows L2 Q

theorem tt_len (ts : List Str) (h : ts ≠ []) : (tupleText ts).length ≤ piled ts + 1 := by
  have e := join_length_add ts h
  have l1 : ((("," : String) : Str)).length = 1 := rfl
  have l2 : ((("(" : String) : Str)).length = 1 := rfl
  unfold tupleText
  rw [PySem.Str.length_append, PySem.Str.length_append, l2]
  have : ((if ts.length == 1 then ",)" else ")" : String) : Str).length ≤ 2 := by split <;> decide
  omega
/-- small data -/
structure Sm (d : PyData) : Prop where
  a : d.showable = true
  b : d.shown.length ≤ 100
  c : d.depth ≤ 3
  d : d.hasDict = false
theorem sm_int : ∀ n : Nat, n < 70 → Sm (.int (n : Int)) := by
  have h : ∀ n : Nat, n < 70 → ((PyData.int (n : Int)).showable = true ∧ (PyData.int (n : Int)).shown.length ≤ 100 ∧ (PyData.int (n : Int)).depth ≤ 3 ∧ (PyData.int (n : Int)).hasDict = false) := by decide +kernel
  exact fun n hn => ⟨(h n hn).1, (h n hn).2.1, (h n hn).2.2.1, (h n hn).2.2.2⟩
theorem sm_bl (b : Bool) : Sm (.bool b) := by
  cases b <;> exact ⟨by decide +kernel, by decide +kernel, by decide +kernel, by decide +kernel⟩
abbrev Shw (d : PyData) : Prop := d.showable = true ∧ d.shown.length ≤ sizeLine ∧ d.depth ≤ 190 ∧ d.hasDict = false
theorem sm_list1 : ∀ n : Nat, n < 70 → Shw (.list [.int (n : Int)]) := by
  have h : ∀ n : Nat, n < 70 → ((PyData.list [.int (n : Int)]).showable = true ∧ (PyData.list [.int (n : Int)]).shown.length ≤ 100 ∧ (PyData.list [.int (n : Int)]).depth ≤ 3 ∧ (PyData.list [.int (n : Int)]).hasDict = false) := by decide +kernel
  exact fun n hn => ⟨(h n hn).1, Nat.le_trans (h n hn).2.1 (by decide), Nat.le_trans (h n hn).2.2.1 (by decide), (h n hn).2.2.2⟩
theorem sm_listN : Shw (.list [.none]) := by
  have h : ((PyData.list [.none]).showable = true ∧ (PyData.list [.none]).shown.length ≤ 100 ∧ (PyData.list [.none]).depth ≤ 3 ∧ (PyData.list [.none]).hasDict = false) := by decide +kernel
  exact ⟨h.1, Nat.le_trans h.2.1 (by decide), Nat.le_trans h.2.2.1 (by decide), h.2.2.2⟩
theorem sm_all : ∀ l : List PyData, (∀ d ∈ l, Sm d) → piled (PyData.shownAll l) ≤ 102 * l.length ∧ PyData.showableAll l = true ∧ PyData.hasDictAll l = false ∧ PyData.depthAll l ≤ 3
  | [], _ => ⟨by decide, by simp [PyData.showableAll], by simp [PyData.hasDictAll], by simp [PyData.depthAll]⟩
  | a :: l, h => by
    obtain ⟨h1, h2, h3, h4⟩ := sm_all l fun d hd => h d (List.mem_cons_of_mem _ hd)
    obtain ⟨k1, k2, k3, k4⟩ := h a List.mem_cons_self
    refine ⟨?_, ?_, ?_, ?_⟩
    · have e : piled (PyData.shownAll (a :: l)) = a.shown.length + 2 + piled (PyData.shownAll l) := by simp [piled, PyData.shownAll]
      rw [e, List.length_cons]; omega
    · simp [PyData.showableAll, k1]; simpa using h2
    · simp [PyData.hasDictAll, k4]; simpa using h3
    · simp only [PyData.depthAll]; omega
theorem sm_tuple {l : List PyData} (h : ∀ d ∈ l, Sm d) (hl : l.length ≤ 1000) : Shw (.tuple l) := by
  obtain ⟨h1, h2, h3, h4⟩ := sm_all l h
  refine ⟨by simpa [PyData.showable] using h2, ?_, by simp only [PyData.depth]; omega, by simpa [PyData.hasDict] using h3⟩
  show (tupleText (PyData.shownAll l)).length ≤ sizeLine
  by_cases hn : PyData.shownAll l = []
  · rw [hn]; decide
  · have := tt_len _ hn; rw [show sizeLine = 16777216 from rfl]; omega
theorem same2_w {n : Nat} {S : Sto} {v w : Vl} {d : PyData} (h : toD S v = some d) (h2 : toD S w = some d) (c : Shw d) : wpe ((lev (n + 1)).1 18 [v, w] S) noE fun r S' => r = .bl true ∧ S' = S := by
  rw [lv__law_oh_same]
  refine w_run rfl ?_
  unfold b__law_oh_same
  simp only [w_lst, w_tup, s_aug, w_caught, w_slot, w_c, w_nil, w_cons, w_bin, w_bi, w_tst, w_not, w_and, w_or, w_ite, w_andV, w_orV, w_call, w_callK, w_met, w_ok, wo_some, wo_if, w_if, s_seq, s_if, s_ret, s_exp, s_skip, s_cont, s_break, s_raise, s_set, s_par, startE, List.map_cons, List.map_nil, List.length_cons, List.length_nil, List.replicate, List.cons_append, List.nil_append, List.getElem?_cons_zero, List.getElem?_cons_succ, List.set_cons_zero, List.set_cons_succ, Option.some.injEq, exists_eq_left', exists_eq_left, true_and, and_true, Nat.zero_le, List.zip_cons_cons, List.zip_nil_right, List.foldl_cons, List.foldl_nil, o_repr h c, o_repr h2 c, o_strs]
  simp
def iD (ps : List Nat) : List PyData := ps.map fun i : Nat => PyData.int (i : Int)
theorem dat_iV {lo k : Nat} {S : Sto} : ∀ ps : List Nat, DatAll lo S k (iV ps) (iD ps)
  | [] => .nil
  | p :: ps => .cons (.int _) (dat_iV ps)
theorem dat_bl {lo k : Nat} {S : Sto} : ∀ bs : List Bool, DatAll lo S k (bs.map Vl.bl) (bs.map PyData.bool)
  | [] => .nil
  | p :: ps => .cons (.bl _) (dat_bl ps)
theorem toD_iV {S : Sto} (ps : List Nat) : toD S (.tup (iV ps)) = some (.tuple (iD ps)) := Dat.toDW (lo := 0) (k := 6) (.tup (dat_iV ps))
theorem toD_bl {S : Sto} (bs : List Bool) : toD S (.tup (bs.map Vl.bl)) = some (.tuple (bs.map PyData.bool)) := Dat.toDW (lo := 0) (k := 6) (.tup (dat_bl bs))
theorem datL {S : Sto} {n : Nat} (ps : List Nat) (hn : n < S.n) (h : S.at_ n = .lst (iV ps)) : Dat 0 S 6 (.ref n) (.list (iD ps)) := .lst (Nat.zero_le _) hn h (dat_iV ps)
theorem same_bls {n : Nat} {S : Sto} {bs : List Bool} (h : bs.length ≤ 1000) : wpe ((lev (n + 1)).1 18 [.tup (bs.map Vl.bl), .tup (bs.map Vl.bl)] S) noE fun r S' => r = .bl true ∧ S' = S :=
  same_w (toD_bl bs) (sm_tuple (fun d hd => by obtain ⟨b, _, rfl⟩ := List.mem_map.mp hd; exact sm_bl b) (by rw [List.length_map]; exact h))
theorem same_iVs {n : Nat} {S : Sto} {ps : List Nat} (h : ps.length ≤ 1000) (hp : ∀ p ∈ ps, p < 70) : wpe ((lev (n + 1)).1 18 [.tup (iV ps), .tup (iV ps)] S) noE fun r S' => r = .bl true ∧ S' = S :=
  same_w (toD_iV ps) (sm_tuple (fun d hd => by obtain ⟨b, hb, rfl⟩ := List.mem_map.mp hd; exact sm_int b (hp b hb)) (by rw [iD, List.length_map]; exact h))
theorem eqv_iD : ∀ ps : List Nat, PyData.eqvAll (iD ps) (iD ps) = true
  | [] => by simp [iD, PyData.eqvAll]
  | p :: ps => by
    have := eqv_iD ps
    simp only [iD, List.map_cons, PyData.eqvAll] at this ⊢
    simp [PyData.eqv, this]
theorem dep_iD : ∀ ps : List Nat, PyData.depthAll (iD ps) ≤ 3
  | [] => by simp [iD, PyData.depthAll]
  | p :: ps => by
    have := dep_iD ps
    simp only [iD, List.map_cons, PyData.depthAll] at this ⊢
    have : (PyData.int (p : Int)).depth ≤ 3 := by simp [PyData.depth]
    omega
theorem o_neL {S : Sto} {n m : Nat} {ps : List Nat} {Z : Vl → Sto → Prop} (hn : n < S.n) (hm : m < S.n) (h1 : S.at_ n = .lst (iV ps)) (h2 : S.at_ m = .lst (iV ps)) : wpo (bNe (.ref n) (.ref m) S) Z = Z (.bl false) S := by
  have d1 := datL ps hn h1
  have d2 := datL ps hm h2
  have hd : (PyData.list (iD ps)).depth ≤ 190 := by have := dep_iD ps; simp only [PyData.depth]; omega
  rw [o_ned (Dat.toDW d1) (Dat.toDW d2) (by rintro ⟨x, y, h, _⟩; cases h) (Dat.lay d1) (Dat.lay d2) (by omega)]
  have e : PyData.eqv (.list (iD ps)) (.list (iD ps)) = true := by simp only [PyData.eqv]; exact eqv_iD ps
  rw [e]
  rfl
theorem o_eqbl {S : Sto} {a b : Bool} {Z : Vl → Sto → Prop} : wpo (bEq (.bl a) (.bl b) S) Z = Z (.bl (a == b)) S := by
  cases a <;> cases b <;> rfl
theorem own_take {L : List (Nat × List Nat)} {k i : Nat} {x : Nat × List Nat} (h : L[k]? = some x) : own (L.take (k + 1)) i = own (L.take k) i ++ (if x.2.contains i = true then [x.1] else []) := by
  rw [take_snoc h]
  unfold own
  rw [List.filter_append, List.map_append]
  congr 1
  by_cases hc : x.2.contains i = true
  · simp only [List.filter_cons, hc, if_true, List.filter_nil, List.map_cons, List.map_nil]
  · simp only [List.filter_cons, hc, if_false, List.filter_nil, List.map_nil, Bool.false_eq_true]
theorem bod_len0 : ∀ (K : Kd) (f : Nat), (∀ x ∈ K.bod f, x.2.length ≤ K.e) ∧ (K.res f).length ≤ K.e
  | .text, f => ⟨fun x h => absurd (show x ∈ ([] : List (Nat × List Nat)) from h) List.not_mem_nil, Nat.zero_le _⟩
  | .to a b, f => by
    have h1 := bod_len0 a f
    have h2 := bod_len0 b (f + a.e)
    have e1 := e_pos a
    refine ⟨fun x h => ?_, by show (b.res (f + a.e)).length + 1 ≤ a.e + b.e; omega⟩
    show x.2.length ≤ a.e + b.e
    rcases List.mem_append.mp (show x ∈ (a.bod f ++ [(f + a.e - 1, a.res f)]) ++ b.bod (f + a.e) from h) with h | h
    · rcases List.mem_append.mp h with h | h
      · have := h1.1 x h; omega
      · rw [List.mem_singleton.mp h]; have := h1.2; show (a.res f).length ≤ _; omega
    · have := h2.1 x h; omega
theorem bod_len (K : Kd) (i : Nat) (ps : List Nat) (h : (i, ps) ∈ K.pl 0) : ps.length ≤ K.e := by
  rcases List.mem_append.mp h with h | h
  · exact (bod_len0 K 0).1 _ h
  · have e := List.mem_singleton.mp h
    have : ps = K.res 0 := congrArg Prod.snd e
    rw [this]
    exact (bod_len0 K 0).2
theorem gr_lock {S S' : Sto} {d : Nat} {o u : Ob} (h : S.at_ d = o) (g : Gr 0 (S.set d u) S') : Gr 0 S (S'.set d o) := by
  refine ⟨g.n, fun k _ hk => ?_⟩
  by_cases e : k = d
  · rw [e, set_same, h]
  · rw [set_ne e, g.at_ k (Nat.zero_le _) hk, set_ne e]
end G

set_option linter.all false
set_option maxRecDepth 100000
set_option maxHeartbeats 4000000
namespace G
open PySem PySem.Spec PyProof.Rows L2 Q

/-- the slots of the law's look at a kind -/
abbrev rn (kv : Vl) (n1 : Nat) (a2 : Option Vl) (t d : Nat) (a5 a6 a7 : Option Vl) : En := [some kv, some (.ref n1), a2, some (.ref t), some (.ref d), a5, a6, a7]
structure Fc (K : Kd) (n1 t d : Nat) (tl : List (Nat × Vl)) (S : Sto) : Prop where
  l1 : n1 < S.n
  lt : t < S.n
  ld : d < S.n
  h1 : S.at_ n1 = .lst ((K.sg true).map Vl.bl)
  ht : S.at_ t = .dic false (dEn tl)
  hd : S.at_ d = .dic false (dEn (tE (K.pl 0)))
  tl : TL S t 0 (K.pl 0) tl
theorem Fc.gr {K : Kd} {n1 t d : Nat} {tl : List (Nat × Vl)} {S S' : Sto} (F : Fc K n1 t d tl S) (g : Gr 0 S S') : Fc K n1 t d tl S' :=
  ⟨Nat.lt_of_lt_of_le F.l1 g.n, Nat.lt_of_lt_of_le F.lt g.n, Nat.lt_of_lt_of_le F.ld g.n, (g.at_ _ (Nat.zero_le _) F.l1).trans F.h1, (g.at_ _ (Nat.zero_le _) F.lt).trans F.ht, (g.at_ _ (Nat.zero_le _) F.ld).trans F.hd, F.tl.gr (.of g)⟩
theorem Fc.told {K : Kd} {n1 t d i : Nat} {tl : List (Nat × Vl)} {S : Sto} {ps : List Nat} (F : Fc K n1 t d tl S) (h : (K.pl 0)[i]? = some (i, ps)) : ∃ n x, dGet (dEn tl) (.int i) = some (.tup [.ref n, x]) ∧ S.at_ n = .lst (iV ps) ∧ n < S.n := by
  obtain ⟨n, x, h1, h2, h3, _⟩ := F.tl.get h
  refine ⟨n, x, dGet_in (List.mem_of_getElem? h1) ?_, h2, h3⟩
  rw [F.tl.keys, pl_keys]
  exact List.nodup_range'
theorem getD_lst {S : Sto} {n : Nat} {xs : List Vl} (h : S.at_ n = .lst xs) : getD S n = none := by unfold getD; rw [h]
theorem rgt_a {m n1 t d i : Nat} {S : Sto} {K : Kd} {kv : Vl} {tl : List (Nat × Vl)} {a5 a6 a7 : Option Vl} {D : End_} (F : Fc K n1 t d tl S) (hm : 1 ≤ m) (hK : K.e ≤ 60) (hi : i < K.e) :
    wps (sIf (mOr (mNot (mTst (mCall ((lev m).1 18) [] (mCons (mBin bSub' (mSlot 4) (mSlot 2)) (mCons (mBi bTuple (mCons (mBin bSub' (mBin bSub' (mSlot 3) (mSlot 2)) (mC (.int 0))) mNil)) mNil))))) (mTst (mBin bNe (mLc (mIt (mBin bSub' (mSlot 4) (mSlot 2))) (.nm 7) (mTst (mBin bEq (mBin bSub' (mSlot 1) (mSlot 7)) (mBin bSub' (mSlot 1) (mSlot 2)))) (mC (.int 1)) [7]) (mLst mNil))))
    (sRet (mC (.bl false)))
    sSkip (rn kv n1 (some (.int i)) t d a5 a6 a7) S)
      ⟨fun ρ S1 => ρ = rn kv n1 (some (.int i)) t d a5 a6 a7 ∧ Gr 0 S S1, D.bk, D.ct, D.rt, D.ex⟩ := by
  obtain ⟨m, rfl⟩ : ∃ m', m = m' + 1 := ⟨m - 1, by omega⟩
  obtain ⟨ps, k1, k2⟩ := pl_at hi
  obtain ⟨c1, s, c2, c3⟩ := pl_sg k2
  obtain ⟨nn, x, e1, e2, e3⟩ := F.told k1
  have hps : ps.length ≤ 1000 := by
    have h := bod_len K i ps k2
    omega
  unfold rn
  simp only [w_lst, w_tup, s_aug, w_caught, w_slot, w_c, w_nil, w_cons, w_bin, w_bi, w_tst, w_not, w_and, w_or, w_ite, w_andV, w_orV, w_call, w_callK, w_met, w_ok, wo_some, wo_if, w_if, s_seq, s_if, s_ret, s_exp, s_skip, s_cont, s_break, s_raise, s_set, s_par, startE, List.map_cons, List.map_nil, List.length_cons, List.length_nil, List.replicate, List.cons_append, List.nil_append, List.getElem?_cons_zero, List.getElem?_cons_succ, List.set_cons_zero, List.set_cons_succ, Option.some.injEq, exists_eq_left', exists_eq_left, true_and, and_true, Nat.zero_le, List.zip_cons_cons, List.zip_nil_right, List.foldl_cons, List.foldl_nil]
  rw [o_key F.hd rfl (pl_get k2), o_key F.ht rfl e1, o_at0, o_tuple (getR_l e2)]
  refine wpe_mono (same_iVs (n := m) hps (fun p hp => by have := (c3 p hp).1; omega)) ?_ (fun _ _ _ _ z => z.elim)
  rintro _ S1 ⟨rfl, rfl⟩
  refine ⟨true, rfl, ?_⟩
  rw [if_neg (by decide)]
  refine w_lc ?_
  simp only [w_it, w_lst, w_tup, s_aug, w_caught, w_slot, w_c, w_nil, w_cons, w_bin, w_bi, w_tst, w_not, w_and, w_or, w_ite, w_andV, w_orV, w_call, w_callK, w_met, w_ok, wo_some, wo_if, w_if, s_seq, s_if, s_ret, s_exp, s_skip, s_cont, s_break, s_raise, s_set, s_par, startE, List.map_cons, List.map_nil, List.length_cons, List.length_nil, List.replicate, List.cons_append, List.nil_append, List.getElem?_cons_zero, List.getElem?_cons_succ, List.set_cons_zero, List.set_cons_succ, Option.some.injEq, exists_eq_left', exists_eq_left, true_and, and_true, Nat.zero_le, List.zip_cons_cons, List.zip_nil_right, List.foldl_cons, List.foldl_nil]
  rw [o_key F.hd rfl (pl_get k2)]
  refine .inl ⟨_, rfl, iV ps, fun k acc S2 => acc = [] ∧ S2 = S1.push (.lst []), ⟨rfl, rfl⟩, fun _ _ _ _ _ => rfl, ?_, ?_⟩
  · rintro k y acc S2 hy ⟨rfl, rfl⟩
    obtain ⟨p, hp, rfl⟩ : ∃ p, ps[k]? = some p ∧ y = .int p := by
      unfold iV at hy
      rw [List.getElem?_map] at hy
      cases e : ps[k]? with
      | none => rw [e] at hy; cases hy
      | some p => rw [e] at hy; cases hy; exact ⟨p, rfl, rfl⟩
    obtain ⟨q1, q2⟩ := c3 p (List.mem_of_getElem? hp)
    have h1 : (S1.push (.lst [])).at_ n1 = .lst ((K.sg true).map Vl.bl) := (push_lt F.l1).trans F.h1
    refine ⟨_, rfl, ?_⟩
    simp only [w_lst, w_tup, s_aug, w_caught, w_slot, w_c, w_nil, w_cons, w_bin, w_bi, w_tst, w_not, w_and, w_or, w_ite, w_andV, w_orV, w_call, w_callK, w_met, w_ok, wo_some, wo_if, w_if, s_seq, s_if, s_ret, s_exp, s_skip, s_cont, s_break, s_raise, s_set, s_par, startE, List.map_cons, List.map_nil, List.length_cons, List.length_nil, List.replicate, List.cons_append, List.nil_append, List.getElem?_cons_zero, List.getElem?_cons_succ, List.set_cons_zero, List.set_cons_succ, Option.some.injEq, exists_eq_left', exists_eq_left, true_and, and_true, Nat.zero_le, List.zip_cons_cons, List.zip_nil_right, List.foldl_cons, List.foldl_nil, wipeE]
    rw [o_atl (v := .bl (!s)) (getR_l h1) (by rw [List.getElem?_map, q2]; rfl) (by omega) (getD_lst h1), o_atl (v := .bl s) (getR_l h1) (by rw [List.getElem?_map, c2]; rfl) (by omega) (getD_lst h1), o_eqbl]
    refine ⟨_, rfl, ?_⟩
    have e : ((!s) == s) = false := by cases s <;> rfl
    rw [e]
    first | exact rfl | exact ⟨rfl, rfl⟩
  · rintro acc S2 ⟨rfl, rfl⟩
    rw [o_neNil (lo := 0) (xs := []) ((push_lt (Nat.lt_succ_self _)).trans push_same) (fun x hx => by cases hx) push_same]
    refine ⟨_, rfl, ?_⟩
    rw [if_neg (by decide)]
    first | exact ⟨rfl, Gr.push.trans Gr.push⟩ | exact Gr.push.trans Gr.push
end G

set_option linter.all false
set_option maxRecDepth 100000
set_option maxHeartbeats 4000000
namespace G
open PySem PySem.Spec PyProof.Rows L2 Q

theorem own_len : ∀ (L : List (Nat × List Nat)) (i : Nat), (own L i).length ≤ L.length := fun L i => by
  unfold own; rw [List.length_map]; exact List.length_filter_le ..
theorem own_mem {L : List (Nat × List Nat)} {i j : Nat} (h : j ∈ own L i) : ∃ ps, (j, ps) ∈ L := by
  obtain ⟨p, hp, rfl⟩ := List.mem_map.mp h
  exact ⟨p.2, (List.mem_filter.mp hp).1⟩
theorem rgt_b {n1 t d i : Nat} {S : Sto} {K : Kd} {kv : Vl} {tl : List (Nat × Vl)} {a5 a6 a7 : Option Vl} {D : End_} (F : Fc K n1 t d tl S) (hK : K.e ≤ 60) :
    wps (sLock 4 (sAsg (mLc (mItK (mSlot 4)) (.nm 6) (mTst (mBin (bInT false) (mSlot 2) (mBin bSub' (mSlot 4) (mSlot 6)))) (mSlot 6) [6]) (gNm 5)) (rn kv n1 (some (.int i)) t d a5 a6 a7) S)
      ⟨fun ρ S1 => ∃ o, ρ = rn kv n1 (some (.int i)) t d (some (.ref o)) a6 a7 ∧ S1.at_ o = .lst (iV (own (K.pl 0) i)) ∧ o < S1.n ∧ Gr 0 S S1, D.bk, D.ct, D.rt, D.ex⟩ := by
  refine s_lock (n := d) rfl F.hd ?_
  rw [s_set]
  refine w_lc ?_
  refine w_itK ?_
  rw [w_slot]
  refine ⟨_, rfl, d, _, rfl, set_same, ?_⟩
  generalize hS1 : S.set d (.dic true (dEn (tE (K.pl 0)))) = S1
  have n1e : S1.n = S.n := by rw [← hS1]; rfl
  have d1 : S1.at_ d = .dic true (dEn (tE (K.pl 0))) := by rw [← hS1]; exact set_same
  have dn : d < S1.n := by rw [n1e]; exact F.ld
  refine ⟨(dEn (tE (K.pl 0))).map (·.1), fun k acc S2 => acc = iV (own ((K.pl 0).take k) i) ∧ S2.at_ S1.n = .lst acc ∧ S1.n < S2.n ∧ Gr 0 S1 S2, ⟨rfl, push_same, Nat.lt_succ_self _, Gr.push⟩, fun _ _ _ _ _ => rfl, ?_, ?_⟩
  · rintro k x acc S2 hx ⟨rfl, q1, q2, g2⟩
    have hk : k < K.e := by
      have := (List.getElem?_eq_some_iff.mp hx).1
      rwa [List.length_map, dEn_len, tE, List.length_map, pl_len] at this
    rw [pl_kI, List.getElem?_map, kI_at hk] at hx
    cases hx
    obtain ⟨ps, k1, k2⟩ := pl_at hk
    have hd2 : S2.at_ d = .dic true (dEn (tE (K.pl 0))) := (g2.at_ _ (Nat.zero_le _) dn).trans d1
    refine ⟨_, rfl, ?_⟩
    simp only [w_lst, w_tup, s_aug, w_caught, w_slot, w_c, w_nil, w_cons, w_bin, w_bi, w_tst, w_not, w_and, w_or, w_ite, w_andV, w_orV, w_call, w_callK, w_met, w_ok, wo_some, wo_if, w_if, s_seq, s_if, s_ret, s_exp, s_skip, s_cont, s_break, s_raise, s_set, s_par, startE, List.map_cons, List.map_nil, List.length_cons, List.length_nil, List.replicate, List.cons_append, List.nil_append, List.getElem?_cons_zero, List.getElem?_cons_succ, List.set_cons_zero, List.set_cons_succ, Option.some.injEq, exists_eq_left', exists_eq_left, true_and, and_true, Nat.zero_le, List.zip_cons_cons, List.zip_nil_right, List.foldl_cons, List.foldl_nil, wipeE]
    rw [o_key (lk := true) hd2 rfl (pl_get k2), o_inT (asI_iV ps), cast_contains]
    refine ⟨_, rfl, ?_⟩
    have et := own_take (i := i) k1
    cases hc : ps.contains i with
    | true =>
      rw [if_pos rfl]
      have hc2 : (i, ps).2.contains i = true := hc
      simp only [hc, if_true] at et
      refine ⟨q1, ?_, ?_, set_same, q2, g2.set_new (Nat.le_refl _)⟩
      · have h1 := own_len ((K.pl 0).take k) i
        rw [List.length_take] at h1
        rw [iV_len, show sizeLine = 16777216 from rfl]
        omega
      · rw [et, iV_app]; rfl
    | false =>
      rw [if_neg (by decide)]
      simp only [hc, if_false, Bool.false_eq_true, List.append_nil] at et
      exact ⟨by rw [et], q1, q2, g2⟩
  · rintro acc S2 ⟨rfl, q1, q2, g2⟩
    have hd2 : S2.at_ d = .dic true (dEn (tE (K.pl 0))) := (g2.at_ _ (Nat.zero_le _) dn).trans d1
    refine ⟨_, hd2, S1.n, rfl, ?_, q2, ?_⟩
    · rw [set_ne (by omega), q1, List.length_map, dEn_len, tE, List.length_map, List.take_length]
    · rw [← hS1] at g2
      exact gr_lock F.hd g2
theorem rgt_c {m n1 t d i o : Nat} {S : Sto} {K : Kd} {kv : Vl} {tl : List (Nat × Vl)} {a6 a7 : Option Vl} {D : End_} (F : Fc K n1 t d tl S) (hm : 80 ≤ m) (hK : K.e ≤ 60) (hi : i < K.e) (hkv : kv = K.v) (ho : S.at_ o = .lst (iV (own (K.pl 0) i))) (hn : o < S.n) :
    wps (sIf (mOr (mNot (mTst (mCall ((lev m).1 18) [] (mCons (mLst (mCons (mCallK ((lev m).1 12) [0, 1] (mCons (mSlot 0) (mCons (mSlot 2) mNil))) mNil)) (mCons (mIte (mTst (mBin bLt (mSlot 2) (mBin bSub (mBi bLen (mCons (mSlot 1) mNil)) (mC (.int 1))))) (mSlot 5) (mLst (mCons (mC .non) mNil))) mNil))))) (mTst (mBin bGt (mBi bLen (mCons (mSlot 5) mNil)) (mC (.int 1)))))
    (sRet (mC (.bl false)))
    sSkip (rn kv n1 (some (.int i)) t d (some (.ref o)) a6 a7) S)
      ⟨fun ρ S1 => ρ = rn kv n1 (some (.int i)) t d (some (.ref o)) a6 a7 ∧ Gr 0 S S1, D.bk, D.ct, D.rt, D.ex⟩ := by
  obtain ⟨m, rfl⟩ : ∃ m', m = m' + 1 := ⟨m - 1, by omega⟩
  have kp : wpe ((lev (m + 1)).1 12 (reord [0, 1] [kv, .int i]) S) D.ex fun r S' => r = kpV K i ∧ Gr 0 S S' := by
    rw [hkv]
    exact wpe_mono (keeper_w (n := m + 1) hK hi (by omega)) (fun _ _ h => h) (fun _ _ _ _ z => z.elim)
  unfold rn
  simp only [w_lst, w_tup, s_aug, w_caught, w_slot, w_c, w_nil, w_cons, w_bin, w_bi, w_tst, w_not, w_and, w_or, w_ite, w_andV, w_orV, w_call, w_callK, w_met, w_ok, wo_some, wo_if, w_if, s_seq, s_if, s_ret, s_exp, s_skip, s_cont, s_break, s_raise, s_set, s_par, startE, List.map_cons, List.map_nil, List.length_cons, List.length_nil, List.replicate, List.cons_append, List.nil_append, List.getElem?_cons_zero, List.getElem?_cons_succ, List.set_cons_zero, List.set_cons_succ, Option.some.injEq, exists_eq_left', exists_eq_left, true_and, and_true, Nat.zero_le, List.zip_cons_cons, List.zip_nil_right, List.foldl_cons, List.foldl_nil]
  refine wpe_mono kp ?_ (fun _ _ _ _ h => h)
  rintro _ S1 ⟨rfl, g1⟩
  generalize hS2 : S1.push (.lst [kpV K i]) = S2
  have g2 : Gr 0 S S2 := by rw [← hS2]; exact g1.trans Gr.push
  have p2 : S2.at_ S1.n = .lst [kpV K i] := by rw [← hS2]; exact push_same
  have p3 : S1.n < S2.n := by rw [← hS2]; exact Nat.lt_succ_self _
  have F2 := F.gr g2
  have o2 : S2.at_ o = .lst (iV (own (K.pl 0) i)) := (g2.at_ _ (Nat.zero_le _) hn).trans ho
  have on2 : o < S2.n := Nat.lt_of_lt_of_le hn g2.n
  refine ⟨by decide, ?_⟩
  rw [o_lenl F2.h1, o_sub, o_lt, List.length_map, sg_len]
  refine ⟨_, rfl, ?_⟩
  have hown : (own (K.pl 0) i).length ≤ 1 := by
    by_cases h : i < K.e - 1
    · obtain ⟨j, hj⟩ := own_one h; rw [hj]; exact Nat.le_refl _
    · rw [own_none (by omega)]; exact Nat.zero_le _
  by_cases h : i < K.e - 1
  · rw [if_pos (by simp; omega)]
    obtain ⟨j, hj⟩ := own_one h
    have hje : j < 70 := by
      obtain ⟨ps, hps⟩ := own_mem (L := K.pl 0) (i := i) (j := j) (by rw [hj]; exact List.mem_singleton.mpr rfl)
      have := (pl_sg hps).1
      have : j < K.e := this
      omega
    have ek : kpV K i = .int j := by unfold kpV; rw [hj]
    rw [ek] at p2
    have o3 := o2
    rw [hj] at o3
    refine wpe_mono (same2_w (n := m) (Dat.toDW (datL [j] p3 p2)) (Dat.toDW (datL [j] on2 o3)) (sm_list1 j hje)) ?_ (fun _ _ _ _ z => z.elim)
    rintro _ S2 ⟨rfl, rfl⟩
    refine ⟨true, rfl, ?_⟩
    rw [if_neg (by decide), o_lenl ((Gr.refl : Gr 0 S2 _).at_ _ (Nat.zero_le _) on2 |>.trans o2), o_gt]
    refine ⟨_, rfl, ?_⟩
    rw [if_neg (by rw [iV_len]; simp; omega)]
    first | exact g2.trans Gr.refl | exact ⟨rfl, g2.trans Gr.refl⟩
  · rw [if_neg (by simp; omega)]
    have hj := own_none (K := K) (i := i) (by omega)
    have ek : kpV K i = .non := by unfold kpV; rw [hj]
    rw [ek] at p2
    refine ⟨by decide, ?_⟩
    have dn : ∀ {S : Sto} {n : Nat}, n < S.n → S.at_ n = .lst [.non] → Dat 0 S 6 (.ref n) (.list [.none]) := fun h1 h2 => .lst (Nat.zero_le _) h1 h2 (.cons .non .nil)
    refine wpe_mono (same2_w (n := m) (Dat.toDW (dn (Nat.lt_succ_of_lt p3) ((push_lt p3).trans p2))) (Dat.toDW (dn (Nat.lt_succ_self _) push_same)) sm_listN) ?_ (fun _ _ _ _ z => z.elim)
    rintro _ S3 ⟨rfl, rfl⟩
    refine ⟨true, rfl, ?_⟩
    rw [if_neg (by decide), o_lenl ((Gr.push : Gr 0 S2 _).at_ _ (Nat.zero_le _) on2 |>.trans o2), o_gt]
    refine ⟨_, rfl, ?_⟩
    rw [if_neg (by rw [iV_len]; simp; omega)]
    first | exact g2.trans Gr.push | exact ⟨rfl, g2.trans Gr.push⟩
end G

set_option linter.all false
set_option maxRecDepth 100000
set_option maxHeartbeats 4000000
namespace G
open PySem PySem.Spec PyProof.Rows L2 Q

theorem w_dict0 {ρ : En} {S : Sto} {E : XP} {Z : Vl → Sto → Prop} : wpe (mDict0 ρ S) E Z = Z (.ref S.n) (S.push (.dic false [])) := rfl
theorem keys_iV (K : Kd) : (dEn (tE (K.pl 0))).map (·.1) = iV (List.range' 0 K.e) := by
  rw [pl_kI]
  unfold kI iV
  rw [List.map_map]
  rfl
theorem rng_iV (n : Nat) : rng n = iV (List.range' 0 n) := by
  unfold rng iV
  rw [List.range_eq_range']
theorem Fc.ne {K : Kd} {n1 t d : Nat} {tl : List (Nat × Vl)} {S : Sto} (F : Fc K n1 t d tl S) : n1 ≠ d := by
  intro e
  have h := F.h1
  rw [e, F.hd] at h
  cases h
abbrev D0 : End_ := ⟨fun _ _ => False, fun _ _ => False, fun _ _ => False, fun _ _ => False, noE⟩
theorem only {o : Option (Fl × En × Sto)} {Mid : En → Sto → Prop} {b1 c1 : En → Sto → Prop} {r1 : Vl → Sto → Prop} {x1 : XP} (h : wps o ⟨Mid, D0.bk, D0.ct, D0.rt, D0.ex⟩) : wps o ⟨Mid, b1, c1, r1, x1⟩ :=
  wps_mono h (fun _ _ h => h) (fun _ _ z => z.elim) (fun _ _ z => z.elim) (fun _ _ z => z.elim) (fun _ _ _ _ z => z.elim)
theorem right_w {n : Nat} {S : Sto} {K : Kd} {kv : Vl} (hkv : kv = K.v) (hK : K.e ≤ 60) (hn : 200 ≤ n) : wpe ((lev n).1 26 [kv] S) noE fun r S' => r = .bl true ∧ Gr 0 S S' := by
  obtain ⟨n, rfl⟩ : ∃ n', n = n' + 1 := ⟨n - 1, by omega⟩
  have hh := ht_e K
  have he := e_pos K
  rw [lv__law_k15_right]
  refine w_run rfl ?_
  unfold b__law_k15_right
  refine s_cut (fun ρ S1 => ∃ n1, ρ = [some kv, some (.ref n1), none, none, none, none, none, none] ∧ n1 < S1.n ∧ S1.at_ n1 = .lst ((K.sg true).map Vl.bl) ∧ Gr 0 S S1) ?_ ?_
  · rw [s_set]
    refine w_lcmap ?_
    simp only [w_it, w_lst, w_tup, s_aug, w_caught, w_slot, w_c, w_nil, w_cons, w_bin, w_bi, w_tst, w_not, w_and, w_or, w_ite, w_andV, w_orV, w_call, w_callK, w_met, w_ok, wo_some, wo_if, w_if, s_seq, s_if, s_ret, s_exp, s_skip, s_cont, s_break, s_raise, s_set, s_par, startE, List.map_cons, List.map_nil, List.length_cons, List.length_nil, List.replicate, List.cons_append, List.nil_append, List.getElem?_cons_zero, List.getElem?_cons_succ, List.set_cons_zero, List.set_cons_succ, Option.some.injEq, exists_eq_left', exists_eq_left, true_and, and_true, Nat.zero_le, List.zip_cons_cons, List.zip_nil_right, List.foldl_cons, List.foldl_nil]
    rw [hkv]
    refine wpe_mono (hd_signs_w K S n (by omega) (by omega)) ?_ (fun _ _ _ _ z => z.elim)
    rintro _ S1 ⟨n1, rfl, k1, k2, k3, g1⟩
    refine .inr (.inl ⟨n1, _, rfl, getR_l k3, (K.sg true).map Vl.bl, (K.sg true).map Vl.bl, rfl, by rw [List.length_map, sg_len]; omega, ?_, ?_, ?_⟩)
    · intro i S2 _ g
      exact nxL_at (getR_l ((g.at_ _ (Nat.zero_le _) k2).trans k3))
    · intro i x y S2 hx hy g
      rw [hx] at hy
      cases hy
      obtain ⟨b, _, rfl⟩ := List.mem_map.mp (List.mem_of_getElem? hx)
      refine ⟨_, rfl, ?_⟩
      simp only [w_true, true_and]
      refine ⟨Gr.refl, ?_⟩
      simp only [w_lst, w_tup, s_aug, w_caught, w_slot, w_c, w_nil, w_cons, w_bin, w_bi, w_tst, w_not, w_and, w_or, w_ite, w_andV, w_orV, w_call, w_callK, w_met, w_ok, wo_some, wo_if, w_if, s_seq, s_if, s_ret, s_exp, s_skip, s_cont, s_break, s_raise, s_set, s_par, startE, List.map_cons, List.map_nil, List.length_cons, List.length_nil, List.replicate, List.cons_append, List.nil_append, List.getElem?_cons_zero, List.getElem?_cons_succ, List.set_cons_zero, List.set_cons_succ, Option.some.injEq, exists_eq_left', exists_eq_left, true_and, and_true, Nat.zero_le, List.zip_cons_cons, List.zip_nil_right, List.foldl_cons, List.foldl_nil, wipeE, o_bool]
      exact Gr.refl
    · intro S2 g2 hn2 hs
      exact ⟨S1.n, rfl, hn2, hs, g1.trans g2⟩
  rintro _ S1 ⟨n1, rfl, l1, h1, g1⟩
  refine s_cut (fun ρ S2 => ∃ t d tl, ρ = rn kv n1 none t d none none none ∧ Fc K n1 t d tl S2 ∧ S.n ≤ d ∧ Gr 0 S S2) ?_ ?_
  · refine s_asg2 ?_
    simp only [w_lst, w_tup, s_aug, w_caught, w_slot, w_c, w_nil, w_cons, w_bin, w_bi, w_tst, w_not, w_and, w_or, w_ite, w_andV, w_orV, w_call, w_callK, w_met, w_ok, wo_some, wo_if, w_if, s_seq, s_if, s_ret, s_exp, s_skip, s_cont, s_break, s_raise, s_set, s_par, startE, List.map_cons, List.map_nil, List.length_cons, List.length_nil, List.replicate, List.cons_append, List.nil_append, List.getElem?_cons_zero, List.getElem?_cons_succ, List.set_cons_zero, List.set_cons_succ, Option.some.injEq, exists_eq_left', exists_eq_left, true_and, and_true, Nat.zero_le, List.zip_cons_cons, List.zip_nil_right, List.foldl_cons, List.foldl_nil, w_dict0]
    rw [hkv]
    refine wpe_mono (hd_parts_w K.ht K (S1.push (.dic false [])) n S1.n 0 [] (Nat.le_refl _) (by omega) (by omega) (Nat.lt_succ_self _) push_same (fun p hp => by cases hp) (by simp; omega)) ?_ (fun _ _ _ _ z => z.elim)
    rintro _ S2 ⟨tl, rfl, k1, g2, k2⟩
    refine wpe_mono (parts_w (n := n) (K := K) hK (by omega)) ?_ (fun _ _ _ _ z => z.elim)
    rintro _ S3 ⟨d, rfl, j1, j2, j3, g3⟩
    have g12 : Gr 0 S1 S2 := g2.push_gr
    have t2 : S1.n < S2.n := Nat.lt_of_lt_of_le (Nat.lt_succ_self _) g2.n
    refine ⟨by decide, _, _, rfl, S1.n, d, tl, rfl, ⟨Nat.lt_of_lt_of_le l1 (g12.trans g3).n, Nat.lt_of_lt_of_le t2 g3.n, j2, ((g12.trans g3).at_ _ (Nat.zero_le _) l1).trans h1, (g3.at_ _ (Nat.zero_le _) t2).trans k1, j3, (k2.gr (.of g3)).low (Nat.zero_le _)⟩, Nat.le_trans (g1.trans g12).n j1, (g1.trans g12).trans g3⟩
  rintro _ S2 ⟨t, d, tl, rfl, F2, ld, g2⟩
  refine s_cut (fun ρ S3 => ρ = rn kv n1 none t d none none none ∧ Gr 0 S2 S3) ?_ ?_
  · have sw : wpe ((lev n).1 7 (reord [0] [kv]) S2) noE fun r S' => r = .tup ((K.sg true).map Vl.bl) ∧ Gr 0 S2 S' := by
      rw [hkv]
      exact signs_w hK (by omega)
    obtain ⟨n, rfl⟩ : ∃ n', n = n' + 1 := ⟨n - 1, by omega⟩
    unfold rn
    simp only [w_lst, w_tup, s_aug, w_caught, w_slot, w_c, w_nil, w_cons, w_bin, w_bi, w_tst, w_not, w_and, w_or, w_ite, w_andV, w_orV, w_call, w_callK, w_met, w_ok, wo_some, wo_if, w_if, s_seq, s_if, s_ret, s_exp, s_skip, s_cont, s_break, s_raise, s_set, s_par, startE, List.map_cons, List.map_nil, List.length_cons, List.length_nil, List.replicate, List.cons_append, List.nil_append, List.getElem?_cons_zero, List.getElem?_cons_succ, List.set_cons_zero, List.set_cons_succ, Option.some.injEq, exists_eq_left', exists_eq_left, true_and, and_true, Nat.zero_le, List.zip_cons_cons, List.zip_nil_right, List.foldl_cons, List.foldl_nil]
    refine wpe_mono sw ?_ (fun _ _ _ _ z => z.elim)
    rintro _ S3 ⟨rfl, g3⟩
    have F3 := F2.gr g3
    rw [o_tuple (getR_l F3.h1)]
    refine wpe_mono (same_bls (n := n) (by rw [sg_len]; omega)) ?_ (fun _ _ _ _ z => z.elim)
    rintro _ S3 ⟨rfl, rfl⟩
    refine ⟨true, rfl, ?_⟩
    rw [if_neg (by decide), o_listD F3.hd, keys_iV]
    refine w_listR ?_
    simp only [w_lst, w_tup, s_aug, w_caught, w_slot, w_c, w_nil, w_cons, w_bin, w_bi, w_tst, w_not, w_and, w_or, w_ite, w_andV, w_orV, w_call, w_callK, w_met, w_ok, wo_some, wo_if, w_if, s_seq, s_if, s_ret, s_exp, s_skip, s_cont, s_break, s_raise, s_set, s_par, startE, List.map_cons, List.map_nil, List.length_cons, List.length_nil, List.replicate, List.cons_append, List.nil_append, List.getElem?_cons_zero, List.getElem?_cons_succ, List.set_cons_zero, List.set_cons_succ, Option.some.injEq, exists_eq_left', exists_eq_left, true_and, and_true, Nat.zero_le, List.zip_cons_cons, List.zip_nil_right, List.foldl_cons, List.foldl_nil]
    rw [o_lenl ((push_lt F3.l1).trans F3.h1)]
    refine ⟨K.e, by rw [List.length_map, sg_len], by omega, ?_⟩
    rw [rng_iV, o_neL (Nat.lt_succ_of_lt (Nat.lt_succ_self _)) (Nat.lt_succ_self _) ((push_lt (Nat.lt_succ_self _)).trans push_same) push_same]
    refine ⟨_, rfl, ?_⟩
    rw [if_neg (by decide)]
    first | exact ⟨rfl, (g3.trans Gr.push).trans Gr.push⟩ | exact (g3.trans Gr.push).trans Gr.push
  rintro _ S3 ⟨rfl, g3⟩
  have F3 := F2.gr g3
  refine s_cut (fun ρ S4 => (∃ a2 a5 a6 a7, ρ = rn kv n1 a2 t d a5 a6 a7) ∧ Gr 0 S3 S4) ?_ ?_
  · refine s_for ?_
    rw [w_itR1, w_cons, w_bi, w_cons, w_slot]
    refine ⟨_, rfl, ?_⟩
    rw [w_nil, o_lenl F3.h1, w_nil, List.length_map, sg_len]
    refine ⟨_, rfl, by omega, by omega, ?_⟩
    rw [show ((K.e : Nat) : Int).toNat = K.e by omega]
    refine ⟨rng K.e, fun i ρ S4 => (∃ a2 a5 a6 a7, ρ = rn kv n1 a2 t d a5 a6 a7) ∧ Gr 0 S3 S4, ⟨⟨_, _, _, _, rfl⟩, Gr.refl⟩, fun i ρ S _ _ => rng_at, ?_, ?_⟩
    · rintro i x ρ S4 hx ⟨⟨a2, a5, a6, a7, rfl⟩, g4⟩
      obtain ⟨rfl, hi⟩ := rng_get hx
      have F4 := F3.gr g4
      rw [show gNm 2 (.int (i : Int)) (rn kv n1 a2 t d a5 a6 a7) S4 = some (rn kv n1 (some (.int (i : Int))) t d a5 a6 a7, S4) from rfl, wo_some]
      refine s_cut _ (only (rgt_a (m := n) (D := D0) F4 (by omega) hK hi)) ?_
      rintro _ S5 ⟨rfl, g5⟩
      have F5 := F4.gr g5
      refine s_cut _ (only (rgt_b (D := D0) F5 hK)) ?_
      rintro _ S6 ⟨o, rfl, ho, hn6, g6⟩
      have F6 := F5.gr g6
      refine wps_mono (rgt_c (m := n) (D := D0) F6 (by omega) hK hi hkv ho hn6) ?_ (fun _ _ z => z.elim) (fun _ _ z => z.elim) (fun _ _ z => z.elim) (fun _ _ _ _ z => z.elim)
      rintro _ S7 ⟨rfl, g7⟩
      exact ⟨⟨_, _, _, _, rfl⟩, ((g4.trans g5).trans g6).trans g7⟩
    · rintro ρ S4 h
      exact h
  rintro _ S4 ⟨⟨a2, a5, a6, a7, rfl⟩, g4⟩
  have F4 := F3.gr g4
  have gS4 := (g2.trans g3).trans g4
  refine s_cut (fun ρ S5 => ρ = rn kv n1 a2 t d a5 a6 a7 ∧ n1 < S5.n ∧ S5.at_ n1 = .lst ((K.sg true).map Vl.bl) ∧ Gr 0 S S5) ?_ ?_
  · unfold rn
    simp only [w_lst, w_tup, s_aug, w_caught, w_slot, w_c, w_nil, w_cons, w_bin, w_bi, w_tst, w_not, w_and, w_or, w_ite, w_andV, w_orV, w_call, w_callK, w_met, w_ok, wo_some, wo_if, w_if, s_seq, s_if, s_ret, s_exp, s_skip, s_cont, s_break, s_raise, s_set, s_par, startE, List.map_cons, List.map_nil, List.length_cons, List.length_nil, List.replicate, List.cons_append, List.nil_append, List.getElem?_cons_zero, List.getElem?_cons_succ, List.set_cons_zero, List.set_cons_succ, Option.some.injEq, exists_eq_left', exists_eq_left, true_and, and_true, Nat.zero_le, List.zip_cons_cons, List.zip_nil_right, List.foldl_cons, List.foldl_nil, o_tyd F4.hd]
    rw [o_clear F4.hd]
    have h5 : (S4.set d (.dic false [])).at_ n1 = .lst ((K.sg true).map Vl.bl) := by rw [set_ne F4.ne]; exact F4.h1
    have g5 : Gr 0 S (S4.set d (.dic false [])) := gS4.set_new ld
    first | exact ⟨rfl, F4.l1, h5, g5⟩ | exact ⟨F4.l1, h5, g5⟩
  rintro _ S5 ⟨rfl, l5, h5, g5⟩
  unfold rn
  simp only [w_lst, w_tup, s_aug, w_caught, w_slot, w_c, w_nil, w_cons, w_bin, w_bi, w_tst, w_not, w_and, w_or, w_ite, w_andV, w_orV, w_call, w_callK, w_met, w_ok, wo_some, wo_if, w_if, s_seq, s_if, s_ret, s_exp, s_skip, s_cont, s_break, s_raise, s_set, s_par, startE, List.map_cons, List.map_nil, List.length_cons, List.length_nil, List.replicate, List.cons_append, List.nil_append, List.getElem?_cons_zero, List.getElem?_cons_succ, List.set_cons_zero, List.set_cons_succ, Option.some.injEq, exists_eq_left', exists_eq_left, true_and, and_true, Nat.zero_le, List.zip_cons_cons, List.zip_nil_right, List.foldl_cons, List.foldl_nil]
  have pw : wpe ((lev n).1 10 [kv] S5) noE fun r S' => ∃ d, r = .ref d ∧ S5.n ≤ d ∧ d < S'.n ∧ S'.at_ d = .dic false (dEn (tE (K.pl 0))) ∧ Gr 0 S5 S' := by
    rw [hkv]
    exact parts_w hK (by omega)
  refine wpe_mono pw ?_ (fun _ _ _ _ z => z.elim)
  rintro _ S6 ⟨d2, rfl, j1, j2, j3, g6⟩
  rw [o_lend j3, o_lenl ((g6.at_ _ (Nat.zero_le _) l5).trans h5), o_eqi, dEn_len, tE, List.length_map, pl_len, List.length_map, sg_len]
  exact ⟨by simp, g5.trans g6⟩
end G

set_option linter.all false
set_option maxRecDepth 100000
set_option maxHeartbeats 4000000
namespace G
open PySem PySem.Spec PyProof.Rows L2 Q

theorem isE_k {S : Sto} {Z : Vl → Sto → Prop} : wpo (bIsE excSub excs [Vl.exc "BadKind" (Str.ofString "") Vl.non, Vl.gl (Str.ofString "BadKind")] S) Z = Z (.bl true) S := by
  have e : bIsE excSub excs [Vl.exc "BadKind" (Str.ofString "") Vl.non, Vl.gl (Str.ofString "BadKind")] S = some (.bl true, S) := by
    simp only [bIsE]
    rw [if_pos (by decide +kernel), decide_eq_true (by decide +kernel)]
  rw [e]; rfl
theorem isE_e {S : Sto} {Z : Vl → Sto → Prop} : wpo (bIsE excSub excs [Vl.exc "BadEnd" (Str.ofString "") Vl.non, Vl.gl (Str.ofString "BadEnd")] S) Z = Z (.bl true) S := by
  have e : bIsE excSub excs [Vl.exc "BadEnd" (Str.ofString "") Vl.non, Vl.gl (Str.ofString "BadEnd")] S = some (.bl true, S) := by
    simp only [bIsE]
    rw [if_pos (by decide +kernel), decide_eq_true (by decide +kernel)]
  rw [e]; rfl
/-- the law's slots -/
abbrev lw (a2 a3 a4 a5 a6 : Option Vl) : En := [some (.ref 0), some (.ref 2), a2, a3, a4, a5, a6]
theorem law_it {S : Sto} {ns : List Int} {a2 a3 a4 a5 a6 : Option Vl} (h0 : S.at_ 0 = .ro (ns.map Vl.int)) :
    wpe (mItR1 (mCons (mBin bAdd (mC (.int 2)) (mBi bMin2 (mCons (mBi bLen (mCons (mSlot 0) mNil)) (mCons (mC (.int 4)) mNil)))) mNil) (lw a2 a3 a4 a5 a6) S) noE fun nx S1 => ∃ k : Nat, 2 ≤ k ∧ k ≤ 6 ∧ nx = nxR 0 k ∧ S1 = S := by
  unfold lw
  rw [w_itR1]
  simp only [w_lst, w_tup, s_aug, w_caught, w_slot, w_c, w_nil, w_cons, w_bin, w_bi, w_tst, w_not, w_and, w_or, w_ite, w_andV, w_orV, w_call, w_callK, w_met, w_ok, wo_some, wo_if, w_if, s_seq, s_if, s_ret, s_exp, s_skip, s_cont, s_break, s_raise, s_set, s_par, startE, List.map_cons, List.map_nil, List.length_cons, List.length_nil, List.replicate, List.cons_append, List.nil_append, List.getElem?_cons_zero, List.getElem?_cons_succ, List.set_cons_zero, List.set_cons_succ, Option.some.injEq, exists_eq_left', exists_eq_left, true_and, and_true, Nat.zero_le, List.zip_cons_cons, List.zip_nil_right, List.foldl_cons, List.foldl_nil]
  rw [o_lenr h0]
  obtain ⟨k, hk, e⟩ : ∃ k : Nat, k ≤ 4 ∧ bMin2 [.int ((ns.map Vl.int).length : Nat), .int 4] S = some (.int k, S) := by
    by_cases h : (4 : Int) < (((ns.map Vl.int).length : Nat) : Int)
    · exact ⟨4, by omega, by show some (Vl.int (if _ then _ else _), S) = _; rw [if_pos h]; rfl⟩
    · exact ⟨(ns.map Vl.int).length, by omega, by show some (Vl.int (if _ then _ else _), S) = _; rw [if_neg h]⟩
  rw [e]
  rw [wo_some]
  rw [o_add]
  have ej : ((2 : Int) + (k : Int)).toNat = 2 + k := by omega
  exact ⟨_, rfl, by omega, by omega, 2 + k, by omega, by omega, by rw [ej], rfl⟩
theorem law_turn {m T : Nat} {S : Sto} {a2 a3 a4 a5 a6 : Option Vl} {D : End_} (s : St 4 2 1 3 T S) (hT : T + 200 < bigT) (hm : 210 ≤ m)
    (hn : ∀ (K : Kd) (S1 : Sto), K.e ≤ 60 → St 4 2 1 3 (T + 100) S1 → D.nx (lw a2 a3 (some K.v) a5 a6) S1) :
    wps ((sSeq (sAsg (mCall ((lev m).1 25) [] (mCons (mSlot 1) mNil)) (gNm 4))
    (sIf (mAnd (mTst (mBin bLe (mCall ((lev m).1 19) [] (mCons (mSlot 4) mNil)) (mC (.int 60)))) (mNot (mTst (mCall ((lev m).1 26) [] (mCons (mSlot 4) mNil)))))
    (sRet (mC (.bl false)))
    sSkip)) (lw a2 a3 a4 a5 a6) S) D := by
  refine s_cut (fun ρ S1 => ∃ (K : Kd) (kv : Vl), kv = K.v ∧ ρ = lw a2 a3 (some kv) a5 a6 ∧ K.e ≤ 60 ∧ St 4 2 1 3 (T + 100) S1) ?_ ?_
  · obtain ⟨m, rfl⟩ : ∃ m', m = m' + 12 := ⟨m - 12, by omega⟩
    unfold lw
    simp only [w_lst, w_tup, s_aug, w_caught, w_slot, w_c, w_nil, w_cons, w_bin, w_bi, w_tst, w_not, w_and, w_or, w_ite, w_andV, w_orV, w_call, w_callK, w_met, w_ok, wo_some, wo_if, w_if, s_seq, s_if, s_ret, s_exp, s_skip, s_cont, s_break, s_raise, s_set, s_par, startE, List.map_cons, List.map_nil, List.length_cons, List.length_nil, List.replicate, List.cons_append, List.nil_append, List.getElem?_cons_zero, List.getElem?_cons_succ, List.set_cons_zero, List.set_cons_succ, Option.some.injEq, exists_eq_left', exists_eq_left, true_and, and_true, Nat.zero_le, List.zip_cons_cons, List.zip_nil_right, List.foldl_cons, List.foldl_nil]
    refine wpe_mono (kind_w (lo := 4) s hT) ?_ (fun _ _ _ _ z => z.elim)
    rintro v S1 ⟨K, hv, hK, s1, g1⟩
    first | exact ⟨K, hv, hK, s1⟩ | exact ⟨K, by rw [hv], hK, s1⟩
  rintro _ S1 ⟨K, kv, hkv, rfl, hK, s1⟩
  have sz : wpe ((lev m).1 19 [kv] S1) D.ex fun r S' => r = .int K.e ∧ S' = S1 := by
    rw [hkv]
    exact wpe_mono (oh_ends_w K S1 m (by omega)) (fun _ _ h => h) (fun _ _ _ _ z => z.elim)
  have rw_ : wpe ((lev m).1 26 [kv] S1) D.ex fun r S' => r = .bl true ∧ Gr 0 S1 S' :=
    wpe_mono (right_w hkv hK (by omega)) (fun _ _ h => h) (fun _ _ _ _ z => z.elim)
  unfold lw
  simp only [w_lst, w_tup, s_aug, w_caught, w_slot, w_c, w_nil, w_cons, w_bin, w_bi, w_tst, w_not, w_and, w_or, w_ite, w_andV, w_orV, w_call, w_callK, w_met, w_ok, wo_some, wo_if, w_if, s_seq, s_if, s_ret, s_exp, s_skip, s_cont, s_break, s_raise, s_set, s_par, startE, List.map_cons, List.map_nil, List.length_cons, List.length_nil, List.replicate, List.cons_append, List.nil_append, List.getElem?_cons_zero, List.getElem?_cons_succ, List.set_cons_zero, List.set_cons_succ, Option.some.injEq, exists_eq_left', exists_eq_left, true_and, and_true, Nat.zero_le, List.zip_cons_cons, List.zip_nil_right, List.foldl_cons, List.foldl_nil]
  refine wpe_mono sz ?_ (fun _ _ _ _ h => h)
  rintro _ S1' ⟨rfl, rfl⟩
  rw [o_le]
  refine ⟨_, rfl, ?_⟩
  rw [if_pos (by simp; omega)]
  refine wpe_mono rw_ ?_ (fun _ _ _ _ h => h)
  rintro _ S2 ⟨rfl, g2⟩
  refine ⟨_, rfl, ?_⟩
  rw [if_neg (by decide)]
  have := hn K S2 hK (s1.gr g2)
  rw [hkv]
  exact this
def oddL (K : Kd) : List Vl := [.non, .int (-1), .int 60, .bl true, .str "0", .tup [.int 0], .int K.e]
theorem odd_no {K : Kd} (hK : K.e ≤ 60) : ∀ v ∈ oddL K, isEnd K v = false ∧ ∀ S, tyOk S v := by
  intro v hv
  simp only [oddL, List.mem_cons, List.not_mem_nil, or_false] at hv
  rcases hv with rfl | rfl | rfl | rfl | rfl | rfl | rfl
  · exact ⟨rfl, fun S => ⟨_, rfl⟩⟩
  · exact ⟨by simp [isEnd], fun S => ⟨_, rfl⟩⟩
  · exact ⟨by simp [isEnd]; omega, fun S => ⟨_, rfl⟩⟩
  · exact ⟨rfl, fun S => ⟨_, rfl⟩⟩
  · exact ⟨rfl, fun S => ⟨_, rfl⟩⟩
  · exact ⟨rfl, fun S => ⟨_, rfl⟩⟩
  · exact ⟨by simp [isEnd], fun S => ⟨_, rfl⟩⟩
theorem law_odd {m T : Nat} {S : Sto} {K : Kd} {kv : Vl} {a2 a3 a5 a6 : Option Vl} {D : End_} (s : St 4 2 1 3 T S) (hT : T + 200 < bigT) (hm : 210 ≤ m) (hK : K.e ≤ 60) (hkv : kv = K.v) :
    wps (sAsg (mTup (mCons (mCall ((lev m).1 24) [] (mCons (mSlot 1) mNil)) (mCons (mCall ((lev m).1 16) [] (mCons (mSlot 1) (mCons (mLst (mCons (mC .non) (mCons (mNeg (mC (.int 1))) (mCons (mC (.int 60)) (mCons (mC (.bl true)) (mCons (mC (.str "0")) (mCons (mTup (mCons (mC (.int 0)) mNil)) (mCons (mCall ((lev m).1 19) [] (mCons (mSlot 4) mNil)) mNil)))))))) mNil))) mNil))) (gTp ((gNm 5) :: ((gNm 6) :: []))) (lw a2 a3 (some kv) a5 a6) S)
      ⟨fun ρ S1 => ∃ v w, ρ = lw a2 a3 (some kv) (some v) (some w) ∧ isKd v = false ∧ (∃ e, Dat 4 S1 5 v e) ∧ isEnd K w = false ∧ (∀ S, tyOk S w) ∧ 4 ≤ S1.n, D.bk, D.ct, D.rt, D.ex⟩ := by
  have sz : ∀ S, wpe ((lev m).1 19 [kv] S) D.ex fun r S' => r = .int K.e ∧ S' = S := fun S => by
    rw [hkv]
    exact wpe_mono (oh_ends_w K S m (by omega)) (fun _ _ h => h) (fun _ _ _ _ z => z.elim)
  obtain ⟨m, rfl⟩ : ∃ m', m = m' + 4 := ⟨m - 4, by omega⟩
  refine s_asg2 ?_
  unfold lw
  simp only [w_lst, w_tup, s_aug, w_caught, w_slot, w_c, w_nil, w_cons, w_bin, w_bi, w_tst, w_not, w_and, w_or, w_ite, w_andV, w_orV, w_call, w_callK, w_met, w_ok, wo_some, wo_if, w_if, s_seq, s_if, s_ret, s_exp, s_skip, s_cont, s_break, s_raise, s_set, s_par, startE, List.map_cons, List.map_nil, List.length_cons, List.length_nil, List.replicate, List.cons_append, List.nil_append, List.getElem?_cons_zero, List.getElem?_cons_succ, List.set_cons_zero, List.set_cons_succ, Option.some.injEq, exists_eq_left', exists_eq_left, true_and, and_true, Nat.zero_le, List.zip_cons_cons, List.zip_nil_right, List.foldl_cons, List.foldl_nil, w_neg]
  refine wpe_mono (bad_kind_w (lo := 4) s (by omega)) ?_ (fun _ _ _ _ z => z.elim)
  rintro v S1 ⟨h1, h2, s1, g1⟩
  refine ⟨1, rfl, by decide, ?_⟩
  refine wpe_mono (sz S1) ?_ (fun _ _ _ _ h => h)
  rintro _ S1 ⟨rfl, rfl⟩
  refine ⟨by decide, ?_⟩
  refine wpe_mono (pick_w (lo := 4) (xs := oddL K) (s1.gr Gr.push) (by omega) push_same s1.ln (Nat.lt_succ_self _) (by simp [oddL]) (by show 7 < 1000000; decide)) ?_ (fun _ _ _ _ z => z.elim)
  rintro w S2 ⟨hw, s2, g2⟩
  obtain ⟨e1, e2⟩ := odd_no hK w hw
  obtain ⟨e, h2⟩ := h2
  exact ⟨by decide, v, w, rfl, v, w, rfl, h1, ⟨e, h2.gr (Gr.push.trans g2)⟩, e1, e2, s2.ln⟩
end G

set_option linter.all false
set_option maxRecDepth 100000
set_option maxHeartbeats 4000000
namespace G
open PySem PySem.Spec PyProof.Rows L2 Q

theorem law_three {l : Nat} {S : Sto} {v w : Vl} {a2 a3 a4 : Option Vl} {D : End_} (hl : 210 ≤ l) (hv : ∃ e, Dat 4 S 5 v e) (hb : isKd v = false) :
    wps (sAsg (mLst (mCons (mBi (bIsE excSub excs) (mCons (mCaught excs (mCall ((lev l).1 7) [] (mCons (mSlot 5) mNil))) (mCons (mC (.gl "BadKind")) mNil))) (mCons (mBi (bIsE excSub excs) (mCons (mCaught excs (mCall ((lev l).1 10) [] (mCons (mSlot 5) mNil))) (mCons (mC (.gl "BadKind")) mNil))) (mCons (mBi (bIsE excSub excs) (mCons (mCaught excs (mCall ((lev l).1 12) [] (mCons (mSlot 5) (mCons (mSlot 6) mNil)))) (mCons (mC (.gl "BadKind")) mNil))) mNil)))) (gNm 3) (lw a2 a3 a4 (some v) (some w)) S)
      ⟨fun ρ S1 => ∃ r, ρ = lw a2 (some (.ref r)) a4 (some v) (some w) ∧ S1.at_ r = .lst [.bl true, .bl true, .bl true] ∧ r < S1.n ∧ Gr 0 S S1, D.bk, D.ct, D.rt, D.ex⟩ := by
  obtain ⟨l, rfl⟩ : ∃ m', l = m' + 4 := ⟨l - 4, by omega⟩
  obtain ⟨e, hv⟩ := hv
  unfold lw
  simp only [w_lst, w_tup, s_aug, w_caught, w_slot, w_c, w_nil, w_cons, w_bin, w_bi, w_tst, w_not, w_and, w_or, w_ite, w_andV, w_orV, w_call, w_callK, w_met, w_ok, wo_some, wo_if, w_if, s_seq, s_if, s_ret, s_exp, s_skip, s_cont, s_break, s_raise, s_set, s_par, startE, List.map_cons, List.map_nil, List.length_cons, List.length_nil, List.replicate, List.cons_append, List.nil_append, List.getElem?_cons_zero, List.getElem?_cons_succ, List.set_cons_zero, List.set_cons_succ, Option.some.injEq, exists_eq_left', exists_eq_left, true_and, and_true, Nat.zero_le, List.zip_cons_cons, List.zip_nil_right, List.foldl_cons, List.foldl_nil]
  refine wpe_mono (signs_bad (n := l) ⟨e, hv⟩ hb) (fun _ _ z => z.elim) ?_
  rintro _ _ _ S1 ⟨rfl, rfl, rfl, g1⟩
  refine ⟨by decide +kernel, rfl, rfl, ?_⟩
  rw [isE_k]
  refine wpe_mono (parts_bad (n := l) ⟨e, hv.gr (g1.up (Nat.zero_le _))⟩ hb) (fun _ _ z => z.elim) ?_
  rintro _ _ _ S2 ⟨rfl, rfl, rfl, g2⟩
  refine ⟨by decide +kernel, rfl, rfl, ?_⟩
  rw [isE_k]
  refine wpe_mono (keeper_bad (n := l) ⟨e, hv.gr ((g1.trans g2).up (Nat.zero_le _))⟩ hb) (fun _ _ z => z.elim) ?_
  rintro _ _ _ S3 ⟨rfl, rfl, rfl, g3⟩
  refine ⟨by decide +kernel, rfl, rfl, ?_⟩
  rw [isE_k]
  exact ⟨by decide, S3.n, rfl, push_same, Nat.lt_succ_self _, ((g1.trans g2).trans g3).trans Gr.push⟩
theorem law_four {m l r : Nat} {S : Sto} {K : Kd} {kv w : Vl} {a2 a5 : Option Vl} {D : End_} (hm : 210 ≤ m) (hl : 210 ≤ l) (hK : K.e ≤ 60) (hkv : kv = K.v) (hr : S.at_ r = .lst [.bl true, .bl true, .bl true]) (hn : r < S.n) (hw : ∀ S, tyOk S w) (he : isEnd K w = false) :
    wps (sIf (mTst (mBin bLe (mCall ((lev m).1 19) [] (mCons (mSlot 4) mNil)) (mC (.int 60))))
    (sExp (mMet "list" mtAppend (mSlot 3) (mCons (mBi (bIsE excSub excs) (mCons (mCaught excs (mCall ((lev l).1 12) [] (mCons (mSlot 4) (mCons (mSlot 6) mNil)))) (mCons (mC (.gl "BadEnd")) mNil))) mNil)))
    sSkip (lw a2 (some (.ref r)) (some kv) a5 (some w)) S)
      ⟨fun ρ S1 => ρ = lw a2 (some (.ref r)) (some kv) a5 (some w) ∧ S1.at_ r = .lst [.bl true, .bl true, .bl true, .bl true] ∧ r < S1.n, D.bk, D.ct, D.rt, D.ex⟩ := by
  have sz : wpe ((lev m).1 19 [kv] S) D.ex fun r S' => r = .int K.e ∧ S' = S := by
    rw [hkv]
    exact wpe_mono (oh_ends_w K S m (by omega)) (fun _ _ h => h) (fun _ _ _ _ z => z.elim)
  have kp : wpe ((lev l).1 12 [kv, w] S) (badE S "BadEnd") fun _ _ => False := by
    rw [hkv]
    exact keeper_end hw he hK (by omega)
  unfold lw
  simp only [w_lst, w_tup, s_aug, w_caught, w_slot, w_c, w_nil, w_cons, w_bin, w_bi, w_tst, w_not, w_and, w_or, w_ite, w_andV, w_orV, w_call, w_callK, w_met, w_ok, wo_some, wo_if, w_if, s_seq, s_if, s_ret, s_exp, s_skip, s_cont, s_break, s_raise, s_set, s_par, startE, List.map_cons, List.map_nil, List.length_cons, List.length_nil, List.replicate, List.cons_append, List.nil_append, List.getElem?_cons_zero, List.getElem?_cons_succ, List.set_cons_zero, List.set_cons_succ, Option.some.injEq, exists_eq_left', exists_eq_left, true_and, and_true, Nat.zero_le, List.zip_cons_cons, List.zip_nil_right, List.foldl_cons, List.foldl_nil]
  refine wpe_mono sz ?_ (fun _ _ _ _ h => h)
  rintro _ S ⟨rfl, rfl⟩
  rw [o_le]
  refine ⟨_, rfl, ?_⟩
  rw [if_pos (by simp; omega)]
  refine ⟨o_tyl hr, ?_⟩
  refine wpe_mono kp (fun _ _ z => z.elim) ?_
  rintro _ _ _ S1 ⟨rfl, rfl, rfl, g1⟩
  refine ⟨by decide +kernel, rfl, rfl, ?_⟩
  rw [isE_e, o_append ((g1.at_ _ (Nat.zero_le _) hn).trans hr) (by decide)]
  first | exact ⟨rfl, set_same, Nat.lt_of_lt_of_le hn g1.n⟩ | exact ⟨set_same, Nat.lt_of_lt_of_le hn g1.n⟩
theorem o_notF {S : Sto} {r : Nat} {Z : Vl → Sto → Prop} (hr : S.at_ r = .lst [.bl true, .bl true, .bl true, .bl true]) (hn : r < S.n) : wpo (bIn true (.bl false) (.ref r) S) Z = Z (.bl true) S := by
  have d : Dat 0 S 6 (.ref r) (.list [.bool true, .bool true, .bool true, .bool true]) := .lst (Nat.zero_le _) hn hr (dat_bl [true, true, true, true])
  have e : toD S (.ref r) = some (.list [.bool true, .bool true, .bool true, .bool true]) := Dat.toDW d
  have e2 : toD S (.bl false) = some (.bool false) := rfl
  unfold bIn
  simp only [getD_lst hr, e, e2]
  rw [if_pos (by decide +kernel)]
  rfl
theorem law_gen {m : Nat} {ns : List Int} (hm : 210 ≤ m) (hl : ns.length ≤ 63) : wpe ((lev (m + 3)).1 27 [.ref 0] (S0 ns)) noE fun r _ => r = .bl true := by
  rw [lv_law, lv_lam]
  refine w_run rfl ?_
  unfold b_law
  refine s_cut (fun ρ S1 => ρ = lw none none none none none ∧ St 4 2 1 3 0 S1 ∧ S1.at_ 0 = .ro (ns.map Vl.int)) ?_ ?_
  · rw [s_set, w_call, w_cons, w_slot]
    refine ⟨_, rfl, ?_⟩
    rw [w_nil]
    refine wpe_mono (begun_w (n := m + 1) hl) ?_ (fun _ _ _ _ z => z.elim)
    rintro _ S1 ⟨rfl, s1, h0⟩
    exact ⟨rfl, s1, h0⟩
  rintro _ S1 ⟨rfl, s1, h0⟩
  refine s_cut (fun ρ S1 => ∃ (a2 : Option Vl) (K : Kd) (kv : Vl), ρ = lw a2 none (some kv) none none ∧ kv = K.v ∧ K.e ≤ 60 ∧ St 4 2 1 3 600 S1) ?_ ?_
  · refine s_for ?_
    refine wpe_mono (law_it h0) ?_ (fun _ _ _ _ z => z.elim)
    rintro _ S2 ⟨k, hk0, hk, rfl, rfl⟩
    refine ⟨rng k, fun i ρ S => (∃ a2 a4, ρ = lw a2 none a4 none none ∧ (0 < i → ∃ K : Kd, a4 = some K.v ∧ K.e ≤ 60)) ∧ St 4 2 1 3 (100 * i) S, ⟨⟨_, _, rfl, fun h => absurd h (Nat.lt_irrefl _)⟩, s1⟩, fun i ρ S _ _ => rng_at, ?_, ?_⟩
    · rintro i x ρ S hx ⟨⟨b2, b4, rfl, _⟩, s⟩
      obtain ⟨rfl, hi⟩ := rng_get hx
      rw [show gNm 2 (.int (i : Int)) (lw b2 none b4 none none) S = some (lw (some (.int (i : Int))) none b4 none none, S) from rfl, wo_some]
      refine law_turn s (by unfold bigT; omega) (by omega) ?_
      intro K S3 hK s3
      exact ⟨⟨_, _, rfl, fun _ => ⟨K, rfl, hK⟩⟩, s3.mono (by omega)⟩
    · rintro ρ S3 ⟨⟨b2, b4, rfl, h⟩, s⟩
      rw [rng_len] at *
      obtain ⟨K, rfl, hK⟩ := h (by omega)
      exact ⟨b2, K, _, rfl, rfl, hK, s.mono (by omega)⟩
  rintro _ S2 ⟨a2, K, kv, rfl, hkv, hK, s2⟩
  refine s_cut _ (only (law_odd (D := D0) s2 (by unfold bigT; omega) (by omega) hK hkv)) ?_
  rintro _ S3 ⟨v, w, rfl, hb, hv, he, hw, _⟩
  refine s_cut _ (only (law_three (l := m) (D := D0) hm hv hb)) ?_
  rintro _ S4 ⟨r, rfl, hr, hn, _⟩
  refine s_cut _ (only (law_four (m := m + 2) (l := m) (D := D0) (by omega) hm hK hkv hr hn hw he)) ?_
  rintro _ S5 ⟨rfl, hr, hn⟩
  unfold lw
  simp only [w_lst, w_tup, s_aug, w_caught, w_slot, w_c, w_nil, w_cons, w_bin, w_bi, w_tst, w_not, w_and, w_or, w_ite, w_andV, w_orV, w_call, w_callK, w_met, w_ok, wo_some, wo_if, w_if, s_seq, s_if, s_ret, s_exp, s_skip, s_cont, s_break, s_raise, s_set, s_par, startE, List.map_cons, List.map_nil, List.length_cons, List.length_nil, List.replicate, List.cons_append, List.nil_append, List.getElem?_cons_zero, List.getElem?_cons_succ, List.set_cons_zero, List.set_cons_succ, Option.some.injEq, exists_eq_left', exists_eq_left, true_and, and_true, Nat.zero_le, List.zip_cons_cons, List.zip_nil_right, List.foldl_cons, List.foldl_nil]
  rw [o_notF hr hn]
theorem plain : Plain := fun ns h _ => by
  obtain ⟨r, S', h1, h2⟩ := wpe_ok (law_gen (m := 226) (ns := ns) (by decide) h)
  subst h2
  exact ⟨S', h1⟩
end G

theorem PySem.Challenge.cw_oneuseheads_k15_ends_of_kinds_holds : PySem.Challenge.rw_oneuseheads_k15_ends_of_kinds.Holds := by
  exact G.holds G.plain
