import PyProof.Rows.All
import Wide.All
import OpenK.AllK
import Wide.FinOn
import HandS.ForMost
import HandS.ForExc
import HandS.TupAny
import HandS.Codes
import HandS.Lambda
import HandS.ExcInit
import HandS.Style
import HandS.Deep
import HandS.IsInst
import HandS.TupLe
import HandS.ExcOwn
import HandS.WordsExc
import HandS.Small
import HandS.ExcIs
import HandS.EndTab
import HandS.Head0
import HandS.Head1
import HandS.Head2
import HandS.HeadHook4
import HandS.Iter
import HandS.More
import HandS.Finally
import HandS.Conv
import HandS.Strs
import HandS.SetKeys
import HandS.ListItems
import KE.SortData
import HandS.FStr
import HandS.ExcField
import HandS.RaiseMore
import PySem.Challenge.RW_oneuseheads_k14_errors_made
set_option Elab.async false
set_option linter.all false
set_option maxRecDepth 100000
set_option maxHeartbeats 200000
namespace Q
open PySem PySem.Spec PyProof.Rows L2

/-- an exception object that is held on to -/
def excO (a : Addr) (cls : Value) (d : Option Addr) : HO := .ext fun h => ∃ (oe : Obj) (vs : Array Value), h.get? a = some oe ∧ Zc cls d oe ∧ oe.data = .fields vs
/-- tables of code objects that are known -/
abbrev Tb := List (Addr × Str)
/-! ### values, objects, the store -/
inductive Vl where
  | non | bl (b : Bool) | int (i : Int) | str (s : Str) | tup (xs : List Vl) | ref (n : Nat) | gl (x : Str) | ty (t : String) | exc (c f : Str) (v : Vl)
inductive Ob where
  | non | lst (xs : List Vl) | ro (xs : List Vl) | dic (lk : Bool) (kvs : List (Vl × Vl)) | ins (c : Str) (fs : List (Str × Vl))
structure Sto where
  n : Nat
  at_ : Nat → Ob
def Sto.push (S : Sto) (o : Ob) : Sto := ⟨S.n + 1, fun i => if i = S.n then o else S.at_ i⟩
def Sto.set (S : Sto) (k : Nat) (o : Ob) : Sto := ⟨S.n, fun i => if i = k then o else S.at_ i⟩
inductive R (α : Type) where
  | ok (a : α) | exc (c f : Str) (v : Vl)
abbrev M (α : Type) := Sto → Option (R α × Sto)
abbrev En := List (Option Vl)
/-- the flow of a statement -/
inductive Fl where
  | nx | bk | ct | rt (v : Vl) | ex (c f : Str) (v : Vl)
abbrev MS := En → Sto → Option (Fl × En × Sto)
def ret {α : Type} (a : α) : M α := fun S => some (.ok a, S)
def bnd {α β : Type} (m : M α) (k : α → M β) : M β := fun S =>
  match m S with
  | none => none
  | some (.ok a, S') => k a S'
  | some (.exc c f v, S') => some (.exc c f v, S')
def fail {α : Type} : M α := fun _ => none
def isMut : Ob → Bool
  | .lst _ => true
  | .dic _ _ => true
  | .ins _ _ => true
  | _ => false
/-! ### the relation to the abstract heap -/
section
variable (K : PySem.W.Frag) (mg : Str → Option Value) (T : Tb) (H : Hp) (μ : Nat → Addr) (N : Nat)
mutual
inductive Rp : Vl → V → Prop
  | non : Rp .non .non
  | bl (b : Bool) : Rp (.bl b) (.bl b)
  | int (i : Int) : Rp (.int i) (.int i)
  | str (s : Str) : Rp (.str s) (.str s)
  | tup {xs : List Vl} {a : Addr} {vs : List V} : SqT K H a vs → RpAll xs vs → Rp (.tup xs) (.ref a)
  | ref (n : Nat) : n < N → Rp (.ref n) (.ref (μ n))
  | gl (x : Str) (a : Addr) : mg x = some (.ref a) → Rp (.gl x) (.ref a)
  | ty (t : String) : Rp (.ty t) (.ty t)
  | exc (c : Str) {a C : Addr} : mg c = some (.ref C) → H a = some (excO a (.ref C) none) → Rp (.exc c "" .non) (.ref a)
  | excF (c f : Str) {a C dd : Addr} {v : Vl} {w : V} : f ≠ "" → mg c = some (.ref C) → H a = some (excO a (.ref C) (some dd)) → H dd = some (exd dd [(f, w)]) → Rp v w → Rp (.exc c f v) (.ref a)
inductive RpAll : List Vl → List V → Prop
  | nil : RpAll [] []
  | cons {x : Vl} {v : V} {xs : List Vl} {vs : List V} : Rp x v → RpAll xs vs → RpAll (x :: xs) (v :: vs)
end
/-- a key of a dict -/
def keyOf : Vl → Option Key
  | .int i => some (.inl i)
  | .str s => some (.inr s)
  | _ => none
inductive RpK : List (Vl × Vl) → List (Key × V) → Prop
  | nil : RpK [] []
  | cons {k : Vl} {x : Vl} {κ : Key} {v : V} {xs : List (Vl × Vl)} {vs : List (Key × V)} : keyOf k = some κ → Rp K mg H μ N x v → RpK xs vs → RpK ((k, x) :: xs) ((κ, v) :: vs)
inductive RpF : List (Str × Vl) → List (Str × V) → Prop
  | nil : RpF [] []
  | cons {f : Str} {x : Vl} {v : V} {xs : List (Str × Vl)} {vs : List (Str × V)} : Rp K mg H μ N x v → RpF xs vs → RpF ((f, x) :: xs) ((f, v) :: vs)
def ObR (a : Addr) : Ob → Prop
  | .non => True
  | .lst xs => ∃ vs, H a = some (.lst vs) ∧ RpAll K mg H μ N xs vs
  | .ro xs => ∃ vs, ((∃ o, H a = some (.frz o (.lst vs))) ∨ (∃ (o : Obj) (its : Array Value) (n : Nat), K.lookup a = some o ∧ o.cls = .type "list" ∧ o.dict = none ∧ o.data = .seq its n ∧ its.size ≤ sizeLine ∧ Vals vs its.toList)) ∧ RpAll K mg H μ N xs vs
  | .dic false kvs => ∃ vs, H a = some (.dK vs) ∧ RpK K mg H μ N kvs vs
  | .dic true kvs => ∃ o vs, H a = some (.frz o (.dK vs)) ∧ RpK K mg H μ N kvs vs
  | .ins c fs => ∃ C dx vs, mg c = some (.ref C) ∧ H a = some (.ins C dx vs) ∧ RpF K mg H μ N fs vs
end
structure SRel (K : PySem.W.Frag) (mg : Str → Option Value) (T : Tb) (H : Hp) (μ : Nat → Addr) (S : Sto) : Prop where
  at_ : ∀ n, n < S.n → ObR K mg H μ S.n (μ n) (S.at_ n)
  inj : ∀ n m, n < S.n → m < S.n → isMut (S.at_ n) = true → isMut (S.at_ m) = true → μ n = μ m → n = m
  tab : LamX.Tabs T H
structure Ext (H : Hp) (μ : Nat → Addr) (N : Nat) (H' : Hp) (μ' : Nat → Addr) (N' : Nat) : Prop where
  tup : ∀ b xs, H b = some (.tup xs) → H' b = some (.tup xs)
  frz : ∀ b o u, H b = some (.frz o u) → H' b = some (.frz o u)
  ext : ∀ b φ, H b = some (.ext φ) → H' b = some (.ext φ)
  le : N ≤ N'
  mu : ∀ n, n < N → μ' n = μ n
structure ERel (K : PySem.W.Frag) (mg : Str → Option Value) (H : Hp) (μ : Nat → Addr) (N : Nat) (ρ : En) (σ : L2.St) : Prop where
  len : ρ.length = σ.length
  at_ : ∀ (i : Nat) (v : Vl), ρ[i]? = some (some v) → ∃ x, σ[i]? = some (some x) ∧ Rp K mg H μ N v x
section
variable {K : PySem.W.Frag} {mg : Str → Option Value} {T : Tb} {H H' H2 : Hp} {μ μ' μ2 : Nat → Addr} {N N' N2 : Nat}
theorem Ext.refl : Ext H μ N H μ N := ⟨fun _ _ h => h, fun _ _ _ h => h, fun _ _ h => h, Nat.le_refl _, fun _ _ => rfl⟩
theorem Ext.trans (a : Ext H μ N H' μ' N') (b : Ext H' μ' N' H2 μ2 N2) : Ext H μ N H2 μ2 N2 :=
  ⟨fun c xs h => b.tup c xs (a.tup c xs h), fun c o u h => b.frz c o u (a.frz c o u h), fun c u h => b.ext c u (a.ext c u h), Nat.le_trans a.le b.le, fun n hn => (b.mu n (Nat.lt_of_lt_of_le hn a.le)).trans (a.mu n hn)⟩
theorem Ext.sqT (e : Ext H μ N H' μ' N') {a : Addr} {vs : List V} (h : SqT K H a vs) : SqT K H' a vs := by
  rcases h with (h | ⟨o, h⟩) | h
  · exact .inl (.inl (e.tup _ _ h))
  · exact .inl (.inr ⟨o, e.frz _ _ _ h⟩)
  · exact .inr h
mutual
theorem Rp.ext (e : Ext H μ N H' μ' N') : ∀ {x : Vl} {v : V}, Rp K mg H μ N x v → Rp K mg H' μ' N' x v
  | _, _, .non => .non
  | _, _, .bl b => .bl b
  | _, _, .int b => .int b
  | _, _, .str b => .str b
  | _, _, .tup h a => .tup (e.sqT h) (RpAll.ext e a)
  | _, _, .ref n h => by rw [← e.mu n h]; exact .ref n (Nat.lt_of_lt_of_le h e.le)
  | _, _, .gl x a h => .gl x a h
  | _, _, .ty t => .ty t
  | _, _, .exc c h1 h2 => .exc c h1 (e.ext _ _ h2)
  | _, _, .excF c f h0 h1 h2 h3 r => .excF c f h0 h1 (e.ext _ _ h2) (e.ext _ _ h3) (Rp.ext e r)
theorem RpAll.ext (e : Ext H μ N H' μ' N') : ∀ {x : List Vl} {v : List V}, RpAll K mg H μ N x v → RpAll K mg H' μ' N' x v
  | _, _, .nil => .nil
  | _, _, .cons h a => .cons (Rp.ext e h) (RpAll.ext e a)
end
theorem RpK.ext (e : Ext H μ N H' μ' N') {x : List (Vl × Vl)} {v : List (Key × V)} (h : RpK K mg H μ N x v) : RpK K mg H' μ' N' x v := by
  induction h with
  | nil => exact .nil
  | cons k r _ ih => exact .cons k (r.ext e) ih
theorem RpF.ext (e : Ext H μ N H' μ' N') {x : List (Str × Vl)} {v : List (Str × V)} (h : RpF K mg H μ N x v) : RpF K mg H' μ' N' x v := by
  induction h with
  | nil => exact .nil
  | cons r _ ih => exact .cons (r.ext e) ih
theorem ERel.ext (e : Ext H μ N H' μ' N') {ρ : En} {σ : L2.St} (h : ERel K mg H μ N ρ σ) : ERel K mg H' μ' N' ρ σ :=
  ⟨h.len, fun i v q => let ⟨x, h1, h2⟩ := h.at_ i v q; ⟨x, h1, h2.ext e⟩⟩
theorem RpAll.length {x : List Vl} {v : List V} (h : RpAll K mg H μ N x v) : x.length = v.length := by
  induction x generalizing v with
  | nil => cases h; rfl
  | cons y ys ih => cases h with | cons _ h2 => simp [ih h2]
theorem RpAll.get : ∀ {xs : List Vl} {vs : List V} {i : Nat} {x : Vl}, RpAll K mg H μ N xs vs → xs[i]? = some x → ∃ v, vs[i]? = some v ∧ Rp K mg H μ N x v
  | _, _, _, _, .nil, h => by simp at h
  | _, _, 0, _, .cons h _, e => by simp at e; subst e; exact ⟨_, rfl, h⟩
  | _, _, i + 1, x, .cons _ t, e => by
    obtain ⟨v, h1, h2⟩ := RpAll.get (i := i) t (by simpa using e)
    exact ⟨v, by simpa using h1, h2⟩
theorem RpAll.append : ∀ {xs ys : List Vl} {vs ws : List V}, RpAll K mg H μ N xs vs → RpAll K mg H μ N ys ws → RpAll K mg H μ N (xs ++ ys) (vs ++ ws)
  | _, _, _, _, .nil, h => h
  | _, _, _, _, .cons h t, k => .cons h (RpAll.append t k)
theorem RpAll.take : ∀ {xs : List Vl} {vs : List V} (n : Nat), RpAll K mg H μ N xs vs → RpAll K mg H μ N (xs.take n) (vs.take n)
  | _, _, 0, _ => by simp; exact .nil
  | _, _, _ + 1, .nil => .nil
  | _, _, n + 1, .cons h t => .cons h (RpAll.take n t)
theorem RpAll.drop : ∀ {xs : List Vl} {vs : List V} (n : Nat), RpAll K mg H μ N xs vs → RpAll K mg H μ N (xs.drop n) (vs.drop n)
  | _, _, 0, h => h
  | _, _, _ + 1, .nil => .nil
  | _, _, n + 1, .cons h t => RpAll.drop n t
theorem RpAll.reverse {xs : List Vl} {vs : List V} (h : RpAll K mg H μ N xs vs) : RpAll K mg H μ N xs.reverse vs.reverse := by
  induction xs generalizing vs with
  | nil => cases h; exact .nil
  | cons y ys ih => cases h with | cons h1 h2 => rw [List.reverse_cons, List.reverse_cons]; exact (ih h2).append (.cons h1 .nil)
theorem RpAll.set : ∀ {xs : List Vl} {vs : List V} (i : Nat) {x : Vl} {v : V}, RpAll K mg H μ N xs vs → Rp K mg H μ N x v → RpAll K mg H μ N (xs.set i x) (vs.set i v)
  | _, _, _, _, _, .nil, _ => .nil
  | _, _, 0, _, _, .cons _ t, r => .cons r t
  | _, _, i + 1, _, _, .cons h t, r => .cons h (RpAll.set i t r)
theorem ERel.set {ρ : En} {σ : L2.St} (h : ERel K mg H μ N ρ σ) (i : Nat) {x : Vl} {v : V} (r : Rp K mg H μ N x v) : ERel K mg H μ N (ρ.set i (some x)) (σ.set i (some v)) := by
  refine ⟨by simp [h.len], fun j w q => ?_⟩
  by_cases e : i = j
  · subst e
    by_cases hl : i < ρ.length
    · rw [List.getElem?_set_self hl] at q
      cases q
      exact ⟨v, by rw [List.getElem?_set_self (by rw [← h.len]; exact hl)], r⟩
    · rw [List.getElem?_eq_none (by simpa using hl)] at q; cases q
  · rw [List.getElem?_set_ne e] at q
    obtain ⟨y, h1, h2⟩ := h.at_ j w q
    exact ⟨y, by rw [List.getElem?_set_ne e]; exact h1, h2⟩
end

/-! ### the heap grows, the store with it -/
section
variable {K : PySem.W.Frag} {mg : Str → Option Value} {T : Tb} {H : Hp} {μ : Nat → Addr} {S : Sto} {p : Addr} {o : HO} {ob : Ob}
def mu1 (μ : Nat → Addr) (n : Nat) (p : Addr) : Nat → Addr := fun i => if i = n then p else μ i
theorem ext_new (hp : H p = none) (N N' : Nat) (hN : N ≤ N') : Ext H μ N (upd H p o) (mu1 μ N p) N' :=
  ⟨fun b xs h => by rw [upd_ne (ne_of_none h hp)]; exact h, fun b o u h => by rw [upd_ne (ne_of_none h hp)]; exact h, fun b u h => by rw [upd_ne (ne_of_none h hp)]; exact h, hN, fun n hn => by unfold mu1; rw [if_neg (Nat.ne_of_lt hn)]⟩
theorem ext_upd (hp : H p = none) (N : Nat) : Ext H μ N (upd H p o) μ N :=
  ⟨fun b xs h => by rw [upd_ne (ne_of_none h hp)]; exact h, fun b o u h => by rw [upd_ne (ne_of_none h hp)]; exact h, fun b u h => by rw [upd_ne (ne_of_none h hp)]; exact h, Nat.le_refl _, fun _ _ => rfl⟩
theorem ObR.mono {K : PySem.W.Frag} {mg : Str → Option Value} {H H' : Hp} {μ μ' : Nat → Addr} {N N' : Nat} {a : Addr} {ob : Ob} (e : Ext H μ N H' μ' N') (ha : ob ≠ .non → ∀ o, H a = some o → H' a = some o) (h : ObR K mg H μ N a ob) : ObR K mg H' μ' N' a ob := by
  match ob, h, ha with
  | .non, _, _ => trivial
  | .lst xs, ⟨vs, h1, h2⟩, ha => exact ⟨vs, ha (fun z => by cases z) _ h1, h2.ext e⟩
  | .ro xs, ⟨vs, h1, h2⟩, ha => exact ⟨vs, h1.imp (fun ⟨o, q⟩ => ⟨o, ha (fun z => by cases z) _ q⟩) id, h2.ext e⟩
  | .dic false kvs, ⟨vs, h1, h2⟩, ha => exact ⟨vs, ha (fun z => by cases z) _ h1, h2.ext e⟩
  | .dic true kvs, ⟨o, vs, h1, h2⟩, ha => exact ⟨o, vs, ha (fun z => by cases z) _ h1, h2.ext e⟩
  | .ins c fs, ⟨C, dx, vs, h0, h1, h2⟩, ha => exact ⟨C, dx, vs, h0, ha (fun z => by cases z) _ h1, h2.ext e⟩
theorem tabs_upd {T : Tb} {H : Hp} {p : Addr} {o : HO} (t : LamX.Tabs T H) (h1 : ∀ ps, H p ≠ some (.tbl ps)) (h2 : ∀ φ, H p ≠ some (.ext φ)) : LamX.Tabs T (upd H p o) := fun q hq => by
  obtain ⟨ps, a, b, c⟩ := t q hq
  refine ⟨ps, ?_, b, fun pos cv e => ?_⟩
  · rw [upd_ne (fun z => h1 ps (by rw [← z]; exact a))]; exact a
  · obtain ⟨k, e1, e2⟩ := c pos cv e
    refine ⟨k, e1, ?_⟩
    rw [upd_ne (fun z => h2 _ (by rw [← z]; exact e2))]; exact e2
theorem tabs_new {T : Tb} {H : Hp} {p : Addr} {o : HO} (t : LamX.Tabs T H) (h : H p = none) : LamX.Tabs T (upd H p o) := tabs_upd t (fun _ z => by rw [h] at z; cases z) (fun _ z => by rw [h] at z; cases z)
/-- something untracked by the store is laid -/
theorem SRel.laid (r : SRel K mg T H μ S) (hp : H p = none) : SRel K mg T (upd H p o) μ S :=
  ⟨fun n hn => (r.at_ n hn).mono (ext_upd hp _) (fun _ u h => by rw [upd_ne (ne_of_none h hp)]; exact h), r.inj, tabs_new r.tab hp⟩
theorem ObR.some {K : PySem.W.Frag} {mg : Str → Option Value} {H : Hp} {μ : Nat → Addr} {N : Nat} {a : Addr} {ob : Ob} (h : ObR K mg H μ N a ob) (m : isMut ob = true) : ∃ o, H a = some o := by
  cases ob with
  | non => exact Bool.noConfusion m
  | ro xs => exact Bool.noConfusion m
  | lst xs => obtain ⟨vs, h1, _⟩ := h; exact ⟨_, h1⟩
  | dic lk kvs =>
    cases lk with
    | false => obtain ⟨vs, h1, _⟩ := h; exact ⟨_, h1⟩
    | true => obtain ⟨o, vs, h1, _⟩ := h; exact ⟨_, h1⟩
  | ins c fs => obtain ⟨C, dx, vs, _, h1, _⟩ := h; exact ⟨_, h1⟩
theorem mu1_same {n : Nat} : mu1 μ n p n = p := if_pos rfl
theorem mu1_lt {n k : Nat} (h : k < n) : mu1 μ n p k = μ k := if_neg (Nat.ne_of_lt h)
theorem push_same : (S.push ob).at_ S.n = ob := if_pos rfl
theorem push_lt {n : Nat} (h : n < S.n) : (S.push ob).at_ n = S.at_ n := if_neg (Nat.ne_of_lt h)
theorem push_n : (S.push ob).n = S.n + 1 := rfl
theorem set_same {k : Nat} : (S.set k ob).at_ k = ob := if_pos rfl
theorem set_ne {k n : Nat} (h : n ≠ k) : (S.set k ob).at_ n = S.at_ n := if_neg h
theorem set_n {k : Nat} : (S.set k ob).n = S.n := rfl
/-- a new object of the store -/
theorem SRel.push (r : SRel K mg T H μ S) (hp : H p = none) (h : ObR K mg (upd H p o) (mu1 μ S.n p) (S.n + 1) p ob) : SRel K mg T (upd H p o) (mu1 μ S.n p) (S.push ob) := by
  refine ⟨?_, ?_, tabs_new r.tab hp⟩
  · intro n hn
    rw [push_n] at hn ⊢
    rcases Nat.lt_or_eq_of_le (Nat.le_of_lt_succ hn) with hl | q
    · rw [mu1_lt hl, push_lt hl]
      exact (r.at_ n hl).mono (ext_new hp _ _ (Nat.le_succ _)) (fun _ u h => by rw [upd_ne (ne_of_none h hp)]; exact h)
    · subst q
      rw [mu1_same, push_same]
      exact h
  · intro n m hn hm h1 h2 e
    have key : ∀ k, k < S.n → isMut (S.at_ k) = true → μ k ≠ p := fun k hk mk z => by
      obtain ⟨o, ho⟩ := (r.at_ k hk).some mk
      rw [z, hp] at ho; cases ho
    rw [push_n] at hn hm
    rcases Nat.lt_or_eq_of_le (Nat.le_of_lt_succ hn) with hln | qn
    · rw [push_lt hln] at h1
      rcases Nat.lt_or_eq_of_le (Nat.le_of_lt_succ hm) with hl | qm
      · rw [push_lt hl] at h2
        rw [mu1_lt hln, mu1_lt hl] at e
        exact r.inj n m hln hl h1 h2 e
      · subst qm
        rw [mu1_lt hln, mu1_same] at e
        exact absurd e (key n hln h1)
    · subst qn
      rcases Nat.lt_or_eq_of_le (Nat.le_of_lt_succ hm) with hl | qm
      · rw [push_lt hl] at h2
        rw [mu1_lt hl, mu1_same] at e
        exact absurd e.symm (key m hl h2)
      · exact qm.symm
theorem ro_frz {K : PySem.W.Frag} {mg : Str → Option Value} {H : Hp} {μ : Nat → Addr} {N : Nat} {a : Addr} {ob : Ob} (h : ObR K mg H μ N a ob) (m : isMut ob = false) (z : ob ≠ .non) (hnf : ∀ o u, H a ≠ some (.frz o u)) :
    ∀ {H' : Hp} {μ' : Nat → Addr} {N' : Nat}, Ext H μ N H' μ' N' → ObR K mg H' μ' N' a ob := by
  intro H' μ' N' e
  cases ob with
  | non => exact absurd rfl z
  | ro xs =>
    obtain ⟨vs, h1, h2⟩ := h
    rcases h1 with ⟨o, q⟩ | h1
    · exact absurd q (hnf _ _)
    · exact ⟨vs, .inr h1, h2.ext e⟩
  | lst xs => exact Bool.noConfusion m
  | dic lk kvs => exact Bool.noConfusion m
  | ins c fs => exact Bool.noConfusion m
/-- a mutable object of the store is changed -/
theorem SRel.write {k : Nat} (r : SRel K mg T H μ S) (hk : k < S.n) (mk : isMut (S.at_ k) = true) (mo : isMut ob = true) (hnt : ∀ xs, H (μ k) ≠ some (.tup xs)) (hnf : ∀ o u, H (μ k) ≠ some (.frz o u)) (hnb : ∀ ps, H (μ k) ≠ some (.tbl ps)) (hnx : ∀ φ, H (μ k) ≠ some (.ext φ))
    (h : Ext H μ S.n (upd H (μ k) o) μ S.n → ObR K mg (upd H (μ k) o) μ S.n (μ k) ob) : SRel K mg T (upd H (μ k) o) μ (S.set k ob) ∧ Ext H μ S.n (upd H (μ k) o) μ S.n := by
  have ex : Ext H μ S.n (upd H (μ k) o) μ S.n := ⟨fun b xs q => by
      by_cases z : b = μ k
      · rw [z] at q; exact absurd q (hnt xs)
      · rw [upd_ne z]; exact q, fun b o u q => by
      by_cases z : b = μ k
      · rw [z] at q; exact absurd q (hnf o _)
      · rw [upd_ne z]; exact q, fun b u q => by
      by_cases z : b = μ k
      · rw [z] at q; exact absurd q (hnx u)
      · rw [upd_ne z]; exact q, Nat.le_refl _, fun _ _ => rfl⟩
  refine ⟨⟨fun n hn => ?_, fun n m hn hm h1 h2 e => ?_, tabs_upd r.tab hnb hnx⟩, ex⟩
  · rw [set_n] at hn ⊢
    by_cases q : n = k
    · subst q
      rw [set_same]
      exact h ex
    · rw [set_ne q]
      by_cases zz : S.at_ n = .non
      · rw [zz]; trivial
      · by_cases z : μ n = μ k
        · cases mm : isMut (S.at_ n) with
          | true => exact absurd (r.inj n k hn hk mm mk z) q
          | false => exact ro_frz (r.at_ n hn) mm zz (by rw [z]; exact hnf) ex
        · exact (r.at_ n hn).mono ex fun _ u hu => by rw [upd_ne z]; exact hu
  · have e1 : ∀ j, isMut ((S.set k ob).at_ j) = true → isMut (S.at_ j) = true := fun j hj => by
      by_cases q : j = k
      · rw [q]; exact mk
      · rw [set_ne q] at hj; exact hj
    exact r.inj n m hn hm (e1 n h1) (e1 m h2) e
end
end Q

set_option linter.all false
set_option maxRecDepth 100000
set_option maxHeartbeats 400000
namespace Q
open PySem PySem.Spec PyProof.Rows L2

abbrev MO (α : Type) := Sto → Option (α × Sto)
def lift {α : Type} (m : MO α) : M α := fun S =>
  match m S with
  | none => none
  | some (a, S') => some (.ok a, S')
/-- how an exception lies -/
def ExR (K : PySem.W.Frag) (mg : Str → Option Value) (H : Hp) (μ : Nat → Addr) (N : Nat) (c f : Str) (v : Vl) (cls : Value) (d : Option Addr) : Prop :=
  ∃ C, mg c = some (.ref C) ∧ cls = .ref C ∧ ((f = "" ∧ d = none) ∨ (f ≠ "" ∧ ∃ (dd : Addr) (w : V), d = some dd ∧ H dd = some (exd dd [(f, w)]) ∧ Rp K mg H μ N v w))
section
variable (K : PySem.W.Frag) (mg : Str → Option Value) (T : Tb)
/-- what is wanted of an outcome -/
def Pst {α β : Type} (W : Value → Option Addr → Hp → Prop) (rel : Hp → (Nat → Addr) → Nat → α → β → Prop) (H : Hp) (μ : Nat → Addr) (N : Nat) (Q : β → Hp → Prop) : Option (R α × Sto) → Prop
  | none => False
  | some (.ok v, S') => ∀ H' μ' x, Ext H μ N H' μ' S'.n → SRel K mg T H' μ' S' → rel H' μ' S'.n v x → Q x H'
  | some (.exc c f v, S') => ∀ H' μ' cls d, Ext H μ N H' μ' S'.n → SRel K mg T H' μ' S' → ExR K mg H' μ' S'.n c f v cls d → W cls d H'
def PstO {α β : Type} (rel : Hp → (Nat → Addr) → Nat → α → β → Prop) (H : Hp) (μ : Nat → Addr) (N : Nat) (Q : β → Hp → Prop) : Option (α × Sto) → Prop
  | none => False
  | some (v, S') => ∀ H' μ' x, Ext H μ N H' μ' S'.n → SRel K mg T H' μ' S' → rel H' μ' S'.n v x → Q x H'
abbrev rl : Hp → (Nat → Addr) → Nat → Vl → V → Prop := fun H μ N v x => Rp K mg H μ N v x
abbrev rls : Hp → (Nat → Addr) → Nat → List Vl → List V → Prop := fun H μ N v x => RpAll K mg H μ N v x
/-- the reading of an expression that does as f says -/
def tOf (W : WX) (f : En → M Vl) : TE := fun σ H Q => ∃ (ρ : En) (μ : Nat → Addr) (S : Sto), SRel K mg T H μ S ∧ ERel K mg H μ S.n ρ σ ∧ Pst K mg T (fun cls d H' => W cls d σ H') (rl K mg) H μ S.n Q (f ρ S)
def tOfA (W : WX) (f : En → M (List Vl)) : TA := fun σ H Q => ∃ (ρ : En) (μ : Nat → Addr) (S : Sto), SRel K mg T H μ S ∧ ERel K mg H μ S.n ρ σ ∧ Pst K mg T (fun cls d H' => W cls d σ H') (rls K mg) H μ S.n Q (f ρ S)
/-- a test -/
def tOfT (W : WX) (f : En → M Bool) : TT := fun σ H Q => ∃ (ρ : En) (μ : Nat → Addr) (S : Sto), SRel K mg T H μ S ∧ ERel K mg H μ S.n ρ σ ∧ Pst K mg T (fun cls d H' => W cls d σ H') (fun _ _ _ (a b : Bool) => a = b) H μ S.n Q (f ρ S)
/-- a statement -/
def PstS (W : WX) (H : Hp) (μ : Nat → Addr) (N : Nat) (D : Ends) : Option (Fl × En × Sto) → Prop
  | none => False
  | some (.nx, ρ', S') => ∀ H' μ' σ', Ext H μ N H' μ' S'.n → SRel K mg T H' μ' S' → ERel K mg H' μ' S'.n ρ' σ' → D.nx σ' H'
  | some (.bk, ρ', S') => ∀ H' μ' σ', Ext H μ N H' μ' S'.n → SRel K mg T H' μ' S' → ERel K mg H' μ' S'.n ρ' σ' → D.bk σ' H'
  | some (.ct, ρ', S') => ∀ H' μ' σ', Ext H μ N H' μ' S'.n → SRel K mg T H' μ' S' → ERel K mg H' μ' S'.n ρ' σ' → D.ct σ' H'
  | some (.rt v, _, S') => ∀ H' μ' x, Ext H μ N H' μ' S'.n → SRel K mg T H' μ' S' → Rp K mg H' μ' S'.n v x → D.rt x H'
  | some (.ex c f v, ρ', S') => ∀ H' μ' σ' cls d, Ext H μ N H' μ' S'.n → SRel K mg T H' μ' S' → ERel K mg H' μ' S'.n ρ' σ' → ExR K mg H' μ' S'.n c f v cls d → W cls d σ' H'
def tOfS (W : WX) (f : MS) : TS := fun D σ H => ∃ (ρ : En) (μ : Nat → Addr) (S : Sto), SRel K mg T H μ S ∧ ERel K mg H μ S.n ρ σ ∧ PstS K mg T W H μ S.n D (f ρ S)
/-- a target -/
def tOfG (g : Vl → En → MO En) : TG := fun x σ H Q => ∃ (ρ : En) (μ : Nat → Addr) (S : Sto) (v : Vl), SRel K mg T H μ S ∧ ERel K mg H μ S.n ρ σ ∧ Rp K mg H μ S.n v x ∧ PstO K mg T (fun H' μ' N' ρ' σ' => ERel K mg H' μ' N' ρ' σ') H μ S.n Q (g v ρ S)
end

abbrev SE (X : Cx) (T : Tb) (W : WX) (e : Expr) (f : En → M Vl) : Prop := PE X e (tOf X.K X.mg T W f)
abbrev SA (X : Cx) (T : Tb) (W : WX) (es : List Expr) (f : En → M (List Vl)) : Prop := PA X es (tOfA X.K X.mg T W f)
abbrev ST (X : Cx) (T : Tb) (W : WX) (e : Expr) (f : En → M Bool) : Prop := PT X e (tOfT X.K X.mg T W f)
abbrev SS (X : Cx) (T : Tb) (W : WX) (s : Stmt) (f : MS) : Prop := PS X s (tOfS X.K X.mg T W f)
abbrev SSs (X : Cx) (T : Tb) (W : WX) (s : List Stmt) (f : MS) : Prop := PSs X s (tOfS X.K X.mg T W f)
abbrev SG (X : Cx) (T : Tb) (e : Expr) (g : Vl → En → MO En) : Prop := PG X e (tOfG X.K X.mg T g)
section
variable {X : Cx} {T : Tb} {W : WX}
theorem PE.imp {e : Expr} {t t' : TE} (h : PE X e t) (i : ∀ σ H Q, t' σ H Q → t σ H Q) : PE X e t' := ⟨fun pins s σ H Q I q => h.run pins s σ H Q I (i σ H Q q)⟩
theorem PT.imp {e : Expr} {t t' : TT} (h : PT X e t) (i : ∀ σ H Q, t' σ H Q → t σ H Q) : PT X e t' := ⟨fun pins s σ H Q I q => h.run pins s σ H Q I (i σ H Q q)⟩
theorem PA.imp {e : List Expr} {t t' : TA} (h : PA X e t) (i : ∀ σ H Q, t' σ H Q → t σ H Q) : PA X e t' := ⟨fun pos pins s σ H Q I q => h.run pos pins s σ H Q I (i σ H Q q)⟩
theorem PS.imp {e : Stmt} {t t' : TS} (h : PS X e t) (i : ∀ D σ H, t' D σ H → t D σ H) : PS X e t' := ⟨fun pins s σ H D I q => h.run pins s σ H D I (i D σ H q)⟩
theorem PSs.imp {e : List Stmt} {t t' : TS} (h : PSs X e t) (i : ∀ D σ H, t' D σ H → t D σ H) : PSs X e t' := ⟨fun pins s σ H D I q => h.run pins s σ H D I (i D σ H q)⟩
theorem PG.imp {e : Expr} {t t' : TG} (h : PG X e t) (i : ∀ v σ H Q, t' v σ H Q → t v σ H Q) : PG X e t' := ⟨fun pins s σ H v u Q I r q => h.run pins s σ H v u Q I r (i v σ H Q q)⟩
end

section
variable {K : PySem.W.Frag} {mg : Str → Option Value} {T : Tb}
theorem Pst.step {α β : Type} {W : Value → Option Addr → Hp → Prop} {rel : Hp → (Nat → Addr) → Nat → α → β → Prop} {H H2 : Hp} {μ μ2 : Nat → Addr} {N N2 : Nat} {Q : β → Hp → Prop} {o : Option (R α × Sto)}
    (h : Pst K mg T W rel H μ N Q o) (e : Ext H μ N H2 μ2 N2) : Pst K mg T W rel H2 μ2 N2 Q o := by
  match o, h with
  | some (.ok v, S'), h => exact fun H' μ' x e' => h H' μ' x (e.trans e')
  | some (.exc c f v, S'), h => exact fun H' μ' cls d e' => h H' μ' cls d (e.trans e')
theorem PstO.step {α β : Type} {rel : Hp → (Nat → Addr) → Nat → α → β → Prop} {H H2 : Hp} {μ μ2 : Nat → Addr} {N N2 : Nat} {Q : β → Hp → Prop} {o : Option (α × Sto)}
    (h : PstO K mg T rel H μ N Q o) (e : Ext H μ N H2 μ2 N2) : PstO K mg T rel H2 μ2 N2 Q o := by
  match o, h with
  | some (v, S'), h => exact fun H' μ' x e' => h H' μ' x (e.trans e')
theorem PstS.step {W : WX} {H H2 : Hp} {μ μ2 : Nat → Addr} {N N2 : Nat} {D : Ends} {o : Option (Fl × En × Sto)}
    (h : PstS K mg T W H μ N D o) (e : Ext H μ N H2 μ2 N2) : PstS K mg T W H2 μ2 N2 D o := by
  match o, h with
  | some (.nx, ρ', S'), h => exact fun H' μ' x e' => h H' μ' x (e.trans e')
  | some (.bk, ρ', S'), h => exact fun H' μ' x e' => h H' μ' x (e.trans e')
  | some (.ct, ρ', S'), h => exact fun H' μ' x e' => h H' μ' x (e.trans e')
  | some (.rt v, ρ', S'), h => exact fun H' μ' x e' => h H' μ' x (e.trans e')
  | some (.ex c f v, ρ', S'), h => exact fun H' μ' σ' cls d e' => h H' μ' σ' cls d (e.trans e')
/-- the outcome of a step and what follows it -/
theorem Pst.bnd_ {α β γ δ : Type} {W : Value → Option Addr → Hp → Prop} {rel : Hp → (Nat → Addr) → Nat → α → β → Prop} {rel2 : Hp → (Nat → Addr) → Nat → γ → δ → Prop} {H : Hp} {μ : Nat → Addr} {N : Nat} {Q : δ → Hp → Prop} {m : M α} {k : α → M γ} {S : Sto}
    (h : Pst K mg T W rel2 H μ N Q (bnd m k S)) {Q1 : β → Hp → Prop} (i : ∀ v S' H' μ' x, Ext H μ N H' μ' S'.n → SRel K mg T H' μ' S' → rel H' μ' S'.n v x → Pst K mg T W rel2 H' μ' S'.n Q (k v S') → Q1 x H') : Pst K mg T W rel H μ N Q1 (m S) := by
  unfold bnd at h
  cases e : m S with
  | none => rw [e] at h; exact h
  | some p =>
    obtain ⟨r, S'⟩ := p
    rw [e] at h
    cases r with
    | ok v => exact fun H' μ' x e' sr rx => i v S' H' μ' x e' sr rx (h.step e')
    | exc c f v => exact h
theorem Pst.lift_ {α β : Type} {W : Value → Option Addr → Hp → Prop} {rel : Hp → (Nat → Addr) → Nat → α → β → Prop} {H : Hp} {μ : Nat → Addr} {N : Nat} {Q : β → Hp → Prop} {m : MO α} {S : Sto}
    (h : Pst K mg T W rel H μ N Q (lift m S)) : PstO K mg T rel H μ N Q (m S) := by
  unfold lift at h
  cases e : m S with
  | none => rw [e] at h; exact h
  | some p => obtain ⟨r, S'⟩ := p; rw [e] at h; exact h
/-- nothing happened to the store -/
theorem PstO.here {α β : Type} {rel : Hp → (Nat → Addr) → Nat → α → β → Prop} {H : Hp} {μ : Nat → Addr} {Q : β → Hp → Prop} {v : α} {x : β} {S : Sto} (h : PstO K mg T rel H μ S.n Q (some (v, S))) (sr : SRel K mg T H μ S) (r : rel H μ S.n v x) : Q x H := h H μ x Ext.refl sr r
theorem Pst.here {α β : Type} {W : Value → Option Addr → Hp → Prop} {rel : Hp → (Nat → Addr) → Nat → α → β → Prop} {H : Hp} {μ : Nat → Addr} {Q : β → Hp → Prop} {v : α} {x : β} {S : Sto} (h : Pst K mg T W rel H μ S.n Q (some (.ok v, S))) (sr : SRel K mg T H μ S) (r : rel H μ S.n v x) : Q x H := h H μ x Ext.refl sr r
end

/-! ### constants and names -/
def mSlot (i : Nat) : En → M Vl := fun ρ => match ρ[i]? with
  | some (some v) => ret v
  | _ => fail
def mC (v : Vl) : En → M Vl := fun _ => ret v
section
variable {X : Cx} {T : Tb} {W : WX} {pos : Pos}
theorem se_slot (i : Nat) {x : Str} (hN : X.N[i]? = some x := by rfl) (hv : Vis X.env.scope x := by first | exact Or.inl rfl | exact Or.inr (Or.inl rfl) | exact Or.inr (Or.inr rfl)) (hd : (x == ("__debug__" : Str)) = false := by decide)
    (hcd : (x == ("__classdict__" : Str)) = false := by decide) : SE X T W (.Name x pos) (mSlot i) := by
  refine PE.imp (pe_var hN hv hd hcd) fun σ H Q h => ?_
  obtain ⟨ρ, μ, S, sr, er, h⟩ := h
  unfold mSlot at h
  cases e : ρ[i]? with
  | none => rw [e] at h; exact h.elim
  | some o =>
    cases o with
    | none => rw [e] at h; exact h.elim
    | some v =>
      rw [e] at h
      obtain ⟨x, h1, h2⟩ := er.at_ i v e
      exact ⟨x, h1, Pst.here h sr h2⟩
theorem se_int {i j} : SE X T W (.Constant (.int i) j pos) (mC (.int i)) := PE.imp pe_int fun σ H Q ⟨ρ, μ, S, sr, er, h⟩ => Pst.here (x := V.int i) h sr (.int i)
theorem se_bl {i j} : SE X T W (.Constant (.bool i) j pos) (mC (.bl i)) := PE.imp pe_bl fun σ H Q ⟨ρ, μ, S, sr, er, h⟩ => Pst.here (x := V.bl i) h sr (.bl i)
theorem se_str {i j} : SE X T W (.Constant (.str i) j pos) (mC (.str i)) := PE.imp pe_str fun σ H Q ⟨ρ, μ, S, sr, er, h⟩ => Pst.here (x := V.str i) h sr (.str i)
theorem se_non {j} : SE X T W (.Constant .none j pos) (mC .non) := PE.imp pe_non fun σ H Q ⟨ρ, μ, S, sr, er, h⟩ => Pst.here (x := V.non) h sr .non
/-- a def or a class of the module, as a value -/
theorem se_gl {x : Str} {a : Addr} (hg : Gl X x) (hm : X.mg x = some (.ref a)) (hd : (x == ("__debug__" : Str)) = false := by decide) : SE X T W (.Name x pos) (mC (.gl x)) :=
  PE.imp (pe_glob hg hm (v := .ref a) rfl hd) fun σ H Q ⟨ρ, μ, S, sr, er, h⟩ => Pst.here (x := V.ref a) h sr (.gl x a hm)
end

/-! ### operators by values -/
/-- an operation on values: never raises -/
def rOf (K : PySem.W.Frag) (mg : Str → Option Value) (T : Tb) (m : Vl → Vl → MO Vl) : R2 := fun x y H Q => ∃ (μ : Nat → Addr) (S : Sto) (a b : Vl), SRel K mg T H μ S ∧ Rp K mg H μ S.n a x ∧ Rp K mg H μ S.n b y ∧ PstO K mg T (rl K mg) H μ S.n Q (m a b S)
abbrev OpS (X : Cx) (T : Tb) (f : Value → Value → Sem Value) (m : Vl → Vl → MO Vl) : Prop := OpR X f (rOf X.K X.mg T m)
def mBin (m : Vl → Vl → MO Vl) (fa fb : En → M Vl) : En → M Vl := fun ρ => bnd (fa ρ) fun x => bnd (fb ρ) fun y => lift (m x y)
section
variable {X : Cx} {T : Tb} {W : WX} {pos : Pos}
theorem tOp_of {m : Vl → Vl → MO Vl} {fa fb : En → M Vl} {σ : L2.St} {H : Hp} {Q : VK} (h : tOf X.K X.mg T W (mBin m fa fb) σ H Q) : tOp (rOf X.K X.mg T m) (tOf X.K X.mg T W fa) (tOf X.K X.mg T W fb) σ H Q := by
  obtain ⟨ρ, μ, S, sr, er, h⟩ := h
  refine ⟨ρ, μ, S, sr, er, Pst.bnd_ h fun v S1 H1 μ1 x e1 sr1 rx h1 => ?_⟩
  refine ⟨ρ, μ1, S1, sr1, er.ext e1, Pst.bnd_ h1 fun w S2 H2 μ2 y e2 sr2 ry h2 => ?_⟩
  exact ⟨μ2, S2, v, w, sr2, rx.ext e2, ry, h2.lift_⟩
theorem se_bin {a b : Expr} {op : Operator} {m : Vl → Vl → MO Vl} {fa fb : En → M Vl} (ho : OpS X T (binaryOp op) m) (ha : SE X T W a fa) (hb : SE X T W b fb) : SE X T W (.BinOp a op b pos) (mBin m fa fb) :=
  PE.imp (pe_op ho ha hb) fun σ H Q h => tOp_of h
end
end Q

set_option linter.all false
set_option maxRecDepth 100000
set_option maxHeartbeats 400000
namespace Q
open PySem PySem.Spec PyProof.Rows L2

def bAdd : Vl → Vl → MO Vl := fun a b S =>
  match a, b with
  | .int i, .int j => some (.int (i + j), S)
  | .str i, .str j => if i.length + j.length ≤ sizeLine then some (.str (i ++ j), S) else none
  | .tup xs, .tup ys => if xs.length + ys.length ≤ sizeLine then some (.tup (xs ++ ys), S) else none
  | .ref n, .ref m => match S.at_ n, S.at_ m with
    | .lst xs, .lst ys => if xs.length + ys.length ≤ sizeLine then some (.ref S.n, S.push (.lst (xs ++ ys))) else none
    | _, _ => none
  | _, _ => none
def bSub : Vl → Vl → MO Vl := fun a b S =>
  match a, b with
  | .int i, .int j => some (.int (i - j), S)
  | _, _ => none
instance (i j : Int) : Decidable (CMul i j) := by unfold CMul; infer_instance
instance (i j : Int) : Decidable (CDiv i j) := by unfold CDiv; infer_instance
instance (i j : Int) : Decidable (CPow i j) := by unfold CPow; infer_instance
def bMul : Vl → Vl → MO Vl := fun a b S =>
  match a, b with
  | .int i, .int j => if CMul i j then some (.int (i * j), S) else none
  | .ref n, .int k => match S.at_ n with
    | .lst xs => if -(2 ^ 63) ≤ k ∧ k < 2 ^ 63 ∧ xs.length * k.toNat ≤ sizeLine then some (.ref S.n, S.push (.lst (List.replicate k.toNat xs).flatten)) else none
    | _ => none
  | _, _ => none
def bDiv : Vl → Vl → MO Vl := fun a b S =>
  match a, b with
  | .int i, .int j => if CDiv i j then some (.int (i / j), S) else none
  | _, _ => none
def bMod : Vl → Vl → MO Vl := fun a b S =>
  match a, b with
  | .int i, .int j => if 0 < j then some (.int (i % j), S) else none
  | _, _ => none
def bPow : Vl → Vl → MO Vl := fun a b S =>
  match a, b with
  | .int i, .int j => if CPow i j then some (.int (i ^ j.toNat), S) else none
  | _, _ => none
def bCmp (p : Int → Int → Bool) : Vl → Vl → MO Vl := fun a b S =>
  match a, b with
  | .int i, .int j => some (.bl (p i j), S)
  | _, _ => none
section
variable {K : PySem.W.Frag} {mg : Str → Option Value} {T : Tb} {H : Hp} {μ : Nat → Addr} {S : Sto} {N : Nat}
theorem Rp.lst_at {n : Nat} {x : V} {xs : List Vl} (sr : SRel K mg T H μ S) (r : Rp K mg H μ S.n (.ref n) x) (e : S.at_ n = .lst xs) : ∃ vs, x = .ref (μ n) ∧ n < S.n ∧ H (μ n) = some (.lst vs) ∧ RpAll K mg H μ S.n xs vs := by
  cases r with
  | ref n h =>
    have q := sr.at_ n h
    rw [e] at q
    obtain ⟨vs, h1, h2⟩ := q
    exact ⟨vs, rfl, h, h1, h2⟩
theorem Rp.tup_at {x : V} {xs : List Vl} (r : Rp K mg H μ N (.tup xs) x) : ∃ a vs, x = .ref a ∧ SqT K H a vs ∧ RpAll K mg H μ N xs vs := by
  cases r with
  | tup h a => exact ⟨_, _, rfl, h, a⟩
/-- a new tuple -/
theorem fin_tup {Q : VK} {xs : List Vl} {vs : List V} (h : PstO K mg T (rl K mg) H μ S.n Q (some (.tup xs, S))) (sr : SRel K mg T H μ S) (r : RpAll K mg H μ S.n xs vs) : ∀ p, H p = none → Q (.ref p) (upd H p (.tup vs)) := fun p hp =>
  h _ μ _ (ext_upd hp _) (sr.laid hp) (.tup (.inl (.inl upd_same)) (r.ext (ext_upd hp _)))
/-- a new list -/
theorem fin_lst {Q : VK} {xs : List Vl} {vs : List V} (h : PstO K mg T (rl K mg) H μ S.n Q (some (.ref S.n, S.push (.lst xs)))) (sr : SRel K mg T H μ S) (r : RpAll K mg H μ S.n xs vs) : ∀ p, H p = none → Q (.ref p) (upd H p (.lst vs)) := fun p hp => by
  have e := ext_new (μ := μ) (o := .lst vs) hp S.n (S.n + 1) (Nat.le_succ _)
  refine h _ (mu1 μ S.n p) _ e (sr.push hp ⟨vs, upd_same, r.ext e⟩) ?_
  have := Rp.ref (K := K) (mg := mg) (H := upd H p (.lst vs)) (μ := mu1 μ S.n p) (N := S.n + 1) S.n (Nat.lt_succ_self _)
  rw [mu1_same] at this
  exact this
end
theorem RpAll.nil_iff {K : PySem.W.Frag} {mg : Str → Option Value} {H : Hp} {μ : Nat → Addr} {N : Nat} {xs : List Vl} {vs : List V} (h : RpAll K mg H μ N xs vs) : vs = [] ↔ xs = [] := by
  cases h <;> simp
theorem RpAll.rep {K : PySem.W.Frag} {mg : Str → Option Value} {H : Hp} {μ : Nat → Addr} {N : Nat} {xs : List Vl} {vs : List V} (h : RpAll K mg H μ N xs vs) : ∀ k, RpAll K mg H μ N (List.replicate k xs).flatten (List.replicate k vs).flatten
  | 0 => .nil
  | k + 1 => by rw [List.replicate_succ, List.replicate_succ, List.flatten_cons, List.flatten_cons]; exact h.append (RpAll.rep h k)
section
variable {X : Cx} {T : Tb}
theorem os_add : OpS X T (binaryOp .Add) bAdd := by
  intro pins s σ H x y v u Q I rx ry h
  obtain ⟨μ, S, a, b, sr, ra, rb, h⟩ := h
  cases a with
  | int i =>
    cases b with
    | int j => cases ra; cases rb; exact op_add pins s σ H _ _ v u Q I rx ry ⟨i, j, rfl, rfl, h.here sr (.int _)⟩
    | _ => exact h.elim
  | str i =>
    cases b with
    | str j =>
      cases ra; cases rb
      have h : PstO X.K X.mg T (rl X.K X.mg) H μ S.n Q (if i.length + j.length ≤ sizeLine then some (.str (i ++ j), S) else none) := h
      by_cases hz : i.length + j.length ≤ sizeLine
      · rw [if_pos hz] at h
        exact op_add_str pins s σ H _ _ v u Q I rx ry ⟨i, j, rfl, rfl, hz, h.here sr (.str _)⟩
      · rw [if_neg hz] at h; exact h.elim
    | _ => exact h.elim
  | tup xs =>
    cases b with
    | tup ys =>
      obtain ⟨a, vs, rfl, ha, ra⟩ := ra.tup_at
      obtain ⟨b, ws, rfl, hb, rb⟩ := rb.tup_at
      have h : PstO X.K X.mg T (rl X.K X.mg) H μ S.n Q (if xs.length + ys.length ≤ sizeLine then some (.tup (xs ++ ys), S) else none) := h
      by_cases hz : xs.length + ys.length ≤ sizeLine
      · rw [if_pos hz] at h
        refine op_catA pins s σ H _ _ v u Q I rx ry ⟨a, b, vs, ws, rfl, rfl, ha, hb, by rw [← ra.length, ← rb.length]; exact hz, fun e => ?_, fun e1 e2 => ?_, fun _ _ => fin_tup h sr (ra.append rb)⟩
        · rw [ra.nil_iff] at e; subst e
          exact h.here sr (.tup hb rb)
        · rw [rb.nil_iff] at e2; subst e2
          rw [List.append_nil] at h
          exact h.here sr (.tup ha ra)
      · rw [if_neg hz] at h; exact h.elim
    | _ => exact h.elim
  | ref n =>
    cases b with
    | ref m =>
      cases e1 : S.at_ n with
      | lst xs =>
        cases e2 : S.at_ m with
        | lst ys =>
          have h : PstO X.K X.mg T (rl X.K X.mg) H μ S.n Q (match S.at_ n, S.at_ m with
            | .lst xs, .lst ys => if xs.length + ys.length ≤ sizeLine then some (.ref S.n, S.push (.lst (xs ++ ys))) else none
            | _, _ => none) := h
          rw [e1, e2] at h
          have h : PstO X.K X.mg T (rl X.K X.mg) H μ S.n Q (if xs.length + ys.length ≤ sizeLine then some (.ref S.n, S.push (.lst (xs ++ ys))) else none) := h
          obtain ⟨vs, rfl, hn, h1, r1⟩ := ra.lst_at sr e1
          obtain ⟨ws, rfl, hm, h2, r2⟩ := rb.lst_at sr e2
          by_cases hz : xs.length + ys.length ≤ sizeLine
          · rw [if_pos hz] at h
            exact op_cat pins s σ H _ _ v u Q I rx ry ⟨_, _, vs, ws, rfl, rfl, h1, h2, by rw [← r1.length, ← r2.length]; exact hz, fin_lst h sr (r1.append r2)⟩
          · rw [if_neg hz] at h; exact h.elim
        | _ => simp only [bAdd, e1, e2] at h; exact h.elim
      | _ => simp only [bAdd, e1] at h; exact h.elim
    | _ => exact h.elim
  | _ => exact h.elim
theorem os_sub : OpS X T (binaryOp .Sub) bSub := by
  intro pins s σ H x y v u Q I rx ry h
  obtain ⟨μ, S, a, b, sr, ra, rb, h⟩ := h
  cases a with
  | int i =>
    cases b with
    | int j => cases ra; cases rb; exact op_sub pins s σ H _ _ v u Q I rx ry ⟨i, j, rfl, rfl, h.here sr (.int _)⟩
    | _ => exact h.elim
  | _ => exact h.elim
theorem os_int {f : Value → Value → Sem Value} {C : Int → Int → Prop} [∀ i j, Decidable (C i j)] {g : Int → Int → Int} {m : Vl → Vl → MO Vl} (ho : OpR X f (rI C fun i j => .int (g i j)))
    (hm : ∀ a b S, m a b S = match a, b with | .int i, .int j => if C i j then some (.int (g i j), S) else none | _, _ => none) : OpS X T f m := by
  intro pins s σ H x y v u Q I rx ry h
  obtain ⟨μ, S, a, b, sr, ra, rb, h⟩ := h
  rw [hm] at h
  cases a with
  | int i =>
    cases b with
    | int j =>
      cases ra; cases rb
      have h : PstO X.K X.mg T (rl X.K X.mg) H μ S.n Q (if C i j then some (.int (g i j), S) else none) := h
      by_cases hz : C i j
      · rw [if_pos hz] at h
        exact ho pins s σ H _ _ v u Q I rx ry ⟨i, j, rfl, rfl, hz, h.here sr (.int _)⟩
      · rw [if_neg hz] at h; exact h.elim
    | _ => exact h.elim
  | _ => exact h.elim
theorem os_div : OpS X T (binaryOp .FloorDiv) bDiv := os_int op_fdiv fun a b S => by cases a <;> first | rfl | (cases b <;> rfl)
theorem os_mod : OpS X T (binaryOp .Mod) bMod := os_int op_mod fun a b S => by cases a <;> first | rfl | (cases b <;> rfl)
theorem os_pow : OpS X T (binaryOp .Pow) bPow := os_int op_pow fun a b S => by cases a <;> first | rfl | (cases b <;> rfl)
theorem os_mul : OpS X T (binaryOp .Mult) bMul := by
  intro pins s σ H x y v u Q I rx ry h
  obtain ⟨μ, S, a, b, sr, ra, rb, h⟩ := h
  cases a with
  | int i =>
    cases b with
    | int j =>
      cases ra; cases rb
      have h : PstO X.K X.mg T (rl X.K X.mg) H μ S.n Q (if CMul i j then some (.int (i * j), S) else none) := h
      by_cases hz : CMul i j
      · rw [if_pos hz] at h
        exact op_mul pins s σ H _ _ v u Q I rx ry ⟨i, j, rfl, rfl, hz, h.here sr (.int _)⟩
      · rw [if_neg hz] at h; exact h.elim
    | _ => exact h.elim
  | ref n =>
    cases b with
    | int k =>
      cases rb
      cases e1 : S.at_ n with
      | lst xs =>
        have h : PstO X.K X.mg T (rl X.K X.mg) H μ S.n Q (match S.at_ n with
          | .lst xs => if -(2 ^ 63) ≤ k ∧ k < 2 ^ 63 ∧ xs.length * k.toNat ≤ sizeLine then some (.ref S.n, S.push (.lst (List.replicate k.toNat xs).flatten)) else none
          | _ => none) := h
        rw [e1] at h
        have h : PstO X.K X.mg T (rl X.K X.mg) H μ S.n Q (if -(2 ^ 63) ≤ k ∧ k < 2 ^ 63 ∧ xs.length * k.toNat ≤ sizeLine then some (.ref S.n, S.push (.lst (List.replicate k.toNat xs).flatten)) else none) := h
        obtain ⟨vs, rfl, hn, h1, r1⟩ := ra.lst_at sr e1
        by_cases hz : -(2 ^ 63) ≤ k ∧ k < 2 ^ 63 ∧ xs.length * k.toNat ≤ sizeLine
        · rw [if_pos hz] at h
          exact op_rep pins s σ H _ _ v u Q I rx ry ⟨_, k, vs, rfl, rfl, h1, hz.1, hz.2.1, by rw [← r1.length]; exact hz.2.2, fin_lst h sr (r1.rep _)⟩
        · rw [if_neg hz] at h; exact h.elim
      | _ => simp only [bMul, e1] at h; exact h.elim
    | _ => exact h.elim
  | _ => exact h.elim
theorem os_cmp {f : Value → Value → Sem Value} {p : Int → Int → Bool} (ho : OpR X f (rI0 fun i j => .bl (p i j))) : OpS X T f (bCmp p) := by
  intro pins s σ H x y v u Q I rx ry h
  obtain ⟨μ, S, a, b, sr, ra, rb, h⟩ := h
  cases a with
  | int i =>
    cases b with
    | int j => cases ra; cases rb; exact ho pins s σ H _ _ v u Q I rx ry ⟨i, j, rfl, rfl, h.here sr (.bl _)⟩
    | _ => exact h.elim
  | _ => exact h.elim
abbrev bLt := bCmp fun i j => decide (i < j)
abbrev bLe := bCmp fun i j => decide (i ≤ j)
abbrev bGt := bCmp fun i j => decide (j < i)
abbrev bGe := bCmp fun i j => decide (j ≤ i)
theorem os_ge : OpS X T (compareOp .GtE) bGe := os_cmp op_ge
end

end Q

set_option linter.all false
set_option maxRecDepth 100000
set_option maxHeartbeats 400000
namespace Q
open PySem PySem.Spec PyProof.Rows L2

/-! ### == of data -/
mutual
/-- a value as data, lists by lk -/
def toDW (lk : Nat → Option PyData) : Vl → Option PyData
  | .non => some .none
  | .bl b => some (.bool b)
  | .int i => some (.int i)
  | .str s => some (.str s)
  | .tup xs => (toDWs lk xs).map .tuple
  | .ref n => lk n
  | .gl _ => none
  | .ty _ => none
  | .exc _ _ _ => none
def toDWs (lk : Nat → Option PyData) : List Vl → Option (List PyData)
  | [] => some []
  | x :: xs => match toDW lk x, toDWs lk xs with
    | some d, some ds => some (d :: ds)
    | _, _ => none
end
def lkN (S : Sto) : Nat → Nat → Option PyData
  | 0, _ => none
  | d + 1, n => match S.at_ n with
    | .lst xs => (toDWs (lkN S d) xs).map .list
    | .ro xs => (toDWs (lkN S d) xs).map .list
    | _ => none
def toD (S : Sto) : Vl → Option PyData := toDW (lkN S 6)
section
variable {K : PySem.W.Frag} {mg : Str → Option Value} {T : Tb} {H : Hp} {μ : Nat → Addr} {S : Sto} {N : Nat}
/-- a list that is read -/
def getR (S : Sto) (n : Nat) : Option (List Vl) := match S.at_ n with
  | .lst xs => some xs
  | .ro xs => some xs
  | _ => none
theorem Rp.read_at {n : Nat} {x : V} {xs : List Vl} (sr : SRel K mg T H μ S) (r : Rp K mg H μ S.n (.ref n) x) (e : getR S n = some xs) : ∃ vs, x = .ref (μ n) ∧ SqL K H (μ n) vs ∧ RpAll K mg H μ S.n xs vs := by
  cases r with
  | ref n h =>
    have q := sr.at_ n h
    unfold getR at e
    cases e1 : S.at_ n with
    | lst ys =>
      rw [e1] at e q
      cases e
      obtain ⟨vs, h1, h2⟩ := q
      exact ⟨vs, rfl, .inl (.inl h1), h2⟩
    | ro ys =>
      rw [e1] at e q
      cases e
      obtain ⟨vs, h1, h2⟩ := q
      refine ⟨vs, rfl, ?_, h2⟩
      rcases h1 with ⟨o, q⟩ | q
      · exact .inl (.inr ⟨o, q⟩)
      · exact .inr q
    | _ => rw [e1] at e; cases e
mutual
theorem Dp_of (lk : Nat → Option PyData) (hlk : ∀ n x d, Rp K mg H μ N (.ref n) x → lk n = some d → Dp K H x d) : ∀ {a : Vl} {x : V} {d : PyData}, Rp K mg H μ N a x → toDW lk a = some d → Dp K H x d
  | .non, _, _, r, e => by cases r; cases e; exact .non
  | .bl b, _, _, r, e => by cases r; cases e; exact .bl b
  | .int b, _, _, r, e => by cases r; cases e; exact .int b
  | .str b, _, _, r, e => by cases r; cases e; exact .str b
  | .tup xs, _, _, r, e => by
    cases r with
    | tup h a =>
      unfold toDW at e
      cases q : toDWs lk xs with
      | none => rw [q] at e; cases e
      | some ds => rw [q] at e; cases e; exact .tup h (DpAll_of lk hlk a q)
  | .ref n, _, _, r, e => by unfold toDW at e; exact hlk n _ _ r e
  | .gl _, _, _, _, e => by cases e
  | .ty _, _, _, _, e => by cases e
  | .exc _ _ _, _, _, _, e => by cases e
theorem DpAll_of (lk : Nat → Option PyData) (hlk : ∀ n x d, Rp K mg H μ N (.ref n) x → lk n = some d → Dp K H x d) : ∀ {a : List Vl} {x : List V} {d : List PyData}, RpAll K mg H μ N a x → toDWs lk a = some d → DpAll K H x d
  | [], _, _, r, e => by cases r; cases e; exact .nil
  | y :: ys, _, _, r, e => by
    cases r with
    | cons r1 r2 =>
      unfold toDWs at e
      cases q1 : toDW lk y with
      | none => rw [q1] at e; cases e
      | some d =>
        cases q2 : toDWs lk ys with
        | none => rw [q1, q2] at e; cases e
        | some ds => rw [q1, q2] at e; cases e; exact .cons (Dp_of lk hlk r1 q1) (DpAll_of lk hlk r2 q2)
end
theorem Dp_lk (sr : SRel K mg T H μ S) : ∀ (k n : Nat) (x : V) (d : PyData), Rp K mg H μ S.n (.ref n) x → lkN S k n = some d → Dp K H x d
  | 0, _, _, _, _, e => by cases e
  | k + 1, n, x, d, r, e => by
    cases e1 : S.at_ n with
    | lst xs =>
      have g : getR S n = some xs := by unfold getR; rw [e1]
      unfold lkN at e
      rw [e1] at e
      obtain ⟨vs, rfl, h1, h2⟩ := r.read_at sr g
      cases q : toDWs (lkN S k) xs with
      | none => simp only [q] at e; cases e
      | some ds => simp only [q] at e; cases e; exact .lst h1 (DpAll_of _ (Dp_lk sr k) h2 q)
    | ro xs =>
      have g : getR S n = some xs := by unfold getR; rw [e1]
      unfold lkN at e
      rw [e1] at e
      obtain ⟨vs, rfl, h1, h2⟩ := r.read_at sr g
      cases q : toDWs (lkN S k) xs with
      | none => simp only [q] at e; cases e
      | some ds => simp only [q] at e; cases e; exact .lst h1 (DpAll_of _ (Dp_lk sr k) h2 q)
    | _ => unfold lkN at e; rw [e1] at e; cases e
theorem Dp_toD (sr : SRel K mg T H μ S) {a : Vl} {x : V} {d : PyData} (r : Rp K mg H μ S.n a x) (e : toD S a = some d) : Dp K H x d := Dp_of _ (Dp_lk sr 6) r e
end
def bEqD (neg : Bool) : Vl → Vl → MO Vl := fun a b S =>
  match toD S a, toD S b with
  | some d, some e => if (d.canLay0 && e.canLay0 && decide (min d.depth e.depth ≤ 190)) = true then some (.bl (if neg then !(PyData.eqv d e) else PyData.eqv d e), S) else none
  | _, _ => none
def bEqW (neg : Bool) : Vl → Vl → MO Vl
  | .str x, .str y => fun S => some (.bl (if neg then !(decide (x = y)) else decide (x = y)), S)
  | a, b => bEqD neg a b
abbrev bEq := bEqW false
abbrev bNe := bEqW true
section
variable {X : Cx} {T : Tb}
theorem bEqW_eq {neg : Bool} {a b : Vl} : (∃ x y, a = .str x ∧ b = .str y) ∨ bEqW neg a b = bEqD neg a b := by
  cases a with
  | str x => cases b with
    | str y => exact .inl ⟨x, y, rfl, rfl⟩
    | _ => exact .inr rfl
  | _ => exact .inr rfl
theorem os_eqW {op : CmpOp} {neg : Bool} (hs : OpR X (compareOp op) fun x y H Q => ∃ a b, x = .str a ∧ y = .str b ∧ Q (.bl (if neg then !(decide (a = b)) else decide (a = b))) H)
    (ho : ∀ {s : Shared} {v u : Value} {d e : PyData} {as bs : List Addr} {Q : Value → Shared → Prop}, Reads s.heap v d as → Reads s.heap u e bs → d.canLay0 = true → e.canLay0 = true → X.A.units + min d.depth e.depth < cLine → Q (.bool (if neg then !(PyData.eqv d e) else PyData.eqv d e)) s → wpAny (model X.prog X.w) X.A (compareOp op v u) Q X.xe s)
    (hu : X.A.units + 190 < cLine) : OpS X T (compareOp op) (bEqW neg) := by
  intro pins s σ H x y v u Q I rx ry h
  obtain ⟨μ, S, a, b, sr, ra, rb, h⟩ := h
  rcases bEqW_eq (neg := neg) (a := a) (b := b) with ⟨p, q, rfl, rfl⟩ | e0
  · cases ra; cases rb
    exact hs pins s σ H _ _ v u Q I rx ry ⟨p, q, rfl, rfl, PstO.here (show PstO X.K X.mg T (rl X.K X.mg) H μ S.n Q (some (.bl _, S)) from h) sr (.bl _)⟩
  rw [e0] at h
  unfold bEqD at h
  cases q1 : toD S a with
  | none => rw [q1] at h; exact h.elim
  | some d =>
    cases q2 : toD S b with
    | none => rw [q1, q2] at h; exact h.elim
    | some e =>
      simp only [q1, q2] at h
      by_cases hz : (d.canLay0 && e.canLay0 && decide (min d.depth e.depth ≤ 190)) = true
      · rw [if_pos hz] at h
        simp only [Bool.and_eq_true, decide_eq_true_eq] at hz
        obtain ⟨as, r1⟩ := Dp.reads I d x v (Dp_toD sr ra q1) rx
        obtain ⟨bs, r2⟩ := Dp.reads I e y u (Dp_toD sr rb q2) ry
        exact ho r1 r2 hz.1.1 hz.1.2 (by omega) ⟨.bl _, H, I, rfl, h.here sr (.bl _)⟩
      · rw [if_neg hz] at h; exact h.elim
theorem dec_str {a b : Str} : decide (V.str a = V.str b) = decide (a = b) := by
  rw [Bool.eq_iff_iff]; simp
theorem os_eq (hu : X.A.units + 190 < cLine) : OpS X T (compareOp .Eq) bEq := os_eqW
  (fun pins s σ H x y v u Q I rx ry ⟨a, b, e1, e2, q⟩ => op_eq pins s σ H x y v u Q I rx ry ⟨by rw [e1, e2]; rfl, by rw [e1, e2, dec_str]; exact q⟩)
  (fun r1 r2 h1 h2 h3 q => SeqAt.compareEq_reads r1 r2 h1 h2 h3 q) hu
theorem os_ne (hu : X.A.units + 190 < cLine) : OpS X T (compareOp .NotEq) bNe := os_eqW
  (fun pins s σ H x y v u Q I rx ry ⟨a, b, e1, e2, q⟩ => op_ne pins s σ H x y v u Q I rx ry ⟨by rw [e1, e2]; rfl, by rw [e1, e2, dec_str]; exact q⟩)
  (fun r1 r2 h1 h2 h3 q => SeqAt.compareNe_reads r1 r2 h1 h2 h3 q) hu
end

/-! ### is None, is True, is False -/
def isNon : Vl → Bool
  | .non => true
  | _ => false
def bIs (neg : Bool) : Vl → Vl → MO Vl := fun a b S =>
  match b with
  | .non => some (.bl (if neg then !(isNon a) else isNon a), S)
  | .bl y => match a with
    | .bl x => some (.bl (if neg then !(decide (x = y)) else decide (x = y)), S)
    | _ => none
  | _ => none

/-! ### subscripts -/
def bIdx : Vl → Vl → MO Vl := fun a b S =>
  match b with
  | .int i => match a with
    | .tup xs => match atI xs i with
      | some v => some (v, S)
      | none => none
    | .ref n => match getR S n with
      | some xs => match atI xs i with
        | some v => some (v, S)
        | none => none
      | none => none
    | .str z => if z.length ≤ sizeLine then match atI z.cps.toList i with
        | some c => some (.str ⟨#[c]⟩, S)
        | none => none
      else none
    | _ => none
  | _ => none
theorem atI_rel {K : PySem.W.Frag} {mg : Str → Option Value} {H : Hp} {μ : Nat → Addr} {N : Nat} {xs : List Vl} {vs : List V} {i : Int} {x : Vl} (r : RpAll K mg H μ N xs vs) (h : atI xs i = some x) : ∃ v, atI vs i = some v ∧ Rp K mg H μ N x v := by
  unfold atI at h ⊢
  rw [← r.length]
  cases q : ixN xs.length i with
  | none => rw [q] at h; cases h
  | some j => rw [q] at h; exact r.get (i := j) h
end Q

set_option linter.all false
set_option maxRecDepth 100000
set_option maxHeartbeats 400000
namespace Q
open PySem PySem.Spec PyProof.Rows L2

/-! ### arguments, displays -/
def mNil : En → M (List Vl) := fun _ => ret []
def mCons (f : En → M Vl) (g : En → M (List Vl)) : En → M (List Vl) := fun ρ => bnd (f ρ) fun x => bnd (g ρ) fun xs => ret (x :: xs)
def mTup (g : En → M (List Vl)) : En → M Vl := fun ρ => bnd (g ρ) fun xs => lift fun S => if xs.length ≤ sizeLine then some (.tup xs, S) else none
def mLst (g : En → M (List Vl)) : En → M Vl := fun ρ => bnd (g ρ) fun xs => lift fun S => if xs.length ≤ sizeLine then some (.ref S.n, S.push (.lst xs)) else none
section
variable {X : Cx} {T : Tb} {W : WX} {pos : Pos}
theorem sa_nil : SA X T W [] mNil := PA.imp pa_nil fun σ H Q ⟨ρ, μ, S, sr, er, h⟩ => Pst.here (x := []) h sr .nil
theorem sa_cons {e : Expr} {es : List Expr} {f : En → M Vl} {g : En → M (List Vl)} (ha : SE X T W e f) (hr : SA X T W es g) (hs : starEach (e :: es) X.env = (false, eval e X.env) :: starEach es X.env := by rfl) : SA X T W (e :: es) (mCons f g) := by
  refine PA.imp (pa_cons ha hr hs) fun σ H Q h => ?_
  obtain ⟨ρ, μ, S, sr, er, h⟩ := h
  refine ⟨ρ, μ, S, sr, er, Pst.bnd_ h fun v S1 H1 μ1 x e1 sr1 rx h1 => ?_⟩
  refine ⟨ρ, μ1, S1, sr1, er.ext e1, Pst.bnd_ h1 fun w S2 H2 μ2 y e2 sr2 ry h2 => ?_⟩
  exact Pst.here h2 sr2 (.cons (rx.ext e2) ry)
theorem se_lst {es : List Expr} {g : En → M (List Vl)} (h : SA X T W es g) : SE X T W (.List es pos) (mLst g) := by
  refine PE.imp (pe_lst h) fun σ H Q h => ?_
  obtain ⟨ρ, μ, S, sr, er, h⟩ := h
  refine ⟨ρ, μ, S, sr, er, Pst.bnd_ h fun v S1 H1 μ1 x e1 sr1 rx h1 => ?_⟩
  have h1 := h1.lift_
  by_cases hz : v.length ≤ sizeLine
  · rw [if_pos hz] at h1
    exact ⟨by rw [← RpAll.length rx]; exact hz, fin_lst h1 sr1 rx⟩
  · rw [if_neg hz] at h1; exact h1.elim
end

/-! ### tests -/
def mTst (f : En → M Vl) : En → M Bool := fun ρ => bnd (f ρ) fun v => match v with | .bl b => ret b | _ => fail
def mAnd (f g : En → M Bool) : En → M Bool := fun ρ => bnd (f ρ) fun b => if b = true then g ρ else ret false
def mOr (f g : En → M Bool) : En → M Bool := fun ρ => bnd (f ρ) fun b => if b = true then ret true else g ρ
def mNot (f : En → M Bool) : En → M Bool := fun ρ => bnd (f ρ) fun b => ret (!b)
def mIte (c : En → M Bool) (f g : En → M Vl) : En → M Vl := fun ρ => bnd (c ρ) fun b => if b = true then f ρ else g ρ
/-- values, by truth values -/
def mAndV (f g : En → M Vl) : En → M Vl := fun ρ => bnd (f ρ) fun v => match v with | .bl b => if b = true then g ρ else ret (.bl false) | _ => fail
def mOrV (f g : En → M Vl) : En → M Vl := fun ρ => bnd (f ρ) fun v => match v with | .bl b => if b = true then ret (.bl true) else g ρ | _ => fail
abbrev STw (X : Cx) (T : Tb) (W : WX) (e : Expr) (f : En → M Bool) : Prop := PW X e (tOfT X.K X.mg T W f)
theorem PW.imp {X : Cx} {e : Expr} {t t' : TT} (h : PW X e t) (i : ∀ σ H Q, t' σ H Q → t σ H Q) : PW X e t' := ⟨fun wh pins s σ H Q I q => h.run wh pins s σ H Q I (i σ H Q q)⟩
section
variable {X : Cx} {T : Tb} {W : WX} {pos : Pos}
theorem tB_of {f : En → M Vl} {σ : L2.St} {H : Hp} {Q : Bool → Hp → Prop} (h : tOfT X.K X.mg T W (mTst f) σ H Q) : tB (tOf X.K X.mg T W f) σ H Q := by
  obtain ⟨ρ, μ, S, sr, er, h⟩ := h
  refine ⟨ρ, μ, S, sr, er, Pst.bnd_ h fun v S1 H1 μ1 x e1 sr1 rx h1 => ?_⟩
  cases v with
  | bl b => cases rx; exact ⟨b, rfl, Pst.here h1 sr1 rfl⟩
  | _ => exact h1.elim
/-- an expression whose value is a bool, as a test -/
theorem st_val {e : Expr} {f : En → M Vl} (h : SE X T W e f) (he : ∀ whole, isTrue e X.env whole = (do let v ← whole; standAt e.pos; holding [v] (truthy v)) := by intro _; rfl) : ST X T W e (mTst f) :=
  PT.imp (pt_val h he) fun σ H Q h => tB_of h
theorem st_cmp {a b : Expr} {op : CmpOp} {m : Vl → Vl → MO Vl} {fa fb : En → M Vl} (ho : OpS X T (compareOp op) m) (ha : SE X T W a fa) (hb : SE X T W b fb) (hm : behindInMarks op b = false := by rfl) : ST X T W (.Compare a [op] [b] pos) (mTst (mBin m fa fb)) := by
  refine PT.imp (pt_cmpR ho ha hb hm) fun σ H Q h => ?_
  have h2 := tB_of h
  exact tOp_of h2
theorem tOr_of {f g : En → M Bool} {σ : L2.St} {H : Hp} {Q : Bool → Hp → Prop} (h : tOfT X.K X.mg T W (mOr f g) σ H Q) : tOr (tOfT X.K X.mg T W f) (tOfT X.K X.mg T W g) σ H Q := by
  obtain ⟨ρ, μ, S, sr, er, h⟩ := h
  refine ⟨ρ, μ, S, sr, er, Pst.bnd_ h fun v S1 H1 μ1 x e1 sr1 rx h1 => ?_⟩
  have rx : v = x := rx
  subst rx
  cases v with
  | true => exact Pst.here h1 sr1 rfl
  | false => exact ⟨ρ, μ1, S1, sr1, er.ext e1, h1⟩
theorem sw_or1 {a : Expr} {f : En → M Bool} (ha : ST X T W a f) : STw X T W (.BoolOp .Or [a] pos) f := pw_or1 ha
theorem sw_or {a b : Expr} {rest : List Expr} {f g : En → M Bool} (ha : ST X T W a f) (hb : STw X T W (.BoolOp .Or (b :: rest) pos) g) : STw X T W (.BoolOp .Or (a :: b :: rest) pos) (mOr f g) := PW.imp (pw_or ha hb) fun σ H Q h => tOr_of h
theorem st_w {e : Expr} {f : En → M Bool} (h : STw X T W e f) : ST X T W e f := L2.PW.pt h
theorem st_not {a : Expr} {f : En → M Bool} (ha : ST X T W a f) : ST X T W (.UnaryOp .Not a pos) (mNot f) := by
  refine PT.imp (pt_not ha) fun σ H Q h => ?_
  obtain ⟨ρ, μ, S, sr, er, h⟩ := h
  refine ⟨ρ, μ, S, sr, er, Pst.bnd_ h fun v S1 H1 μ1 x e1 sr1 rx h1 => ?_⟩
  have rx : v = x := rx
  subst rx
  exact Pst.here h1 sr1 rfl
theorem se_ite {c a b : Expr} {fc : En → M Bool} {f g : En → M Vl} (hc : ST X T W c fc) (ha : SE X T W a f) (hb : SE X T W b g) : SE X T W (.IfExp c a b pos) (mIte fc f g) := by
  refine PE.imp (pe_ifExp hc ha hb) fun σ H Q h => ?_
  obtain ⟨ρ, μ, S, sr, er, h⟩ := h
  refine ⟨ρ, μ, S, sr, er, Pst.bnd_ h fun v S1 H1 μ1 x e1 sr1 rx h1 => ?_⟩
  have rx : v = x := rx
  subst rx
  cases v with
  | true => exact ⟨ρ, μ1, S1, sr1, er.ext e1, h1⟩
  | false => exact ⟨ρ, μ1, S1, sr1, er.ext e1, h1⟩
theorem se_one {op} {a : Expr} {f : En → M Vl} (h : SE X T W a f) : SE X T W (.BoolOp op [a] pos) f := pe_one h
theorem se_and {a b : Expr} {rest : List Expr} {f g : En → M Vl} (ha : SE X T W a f) (hb : SE X T W (.BoolOp .And (b :: rest) pos) g) : SE X T W (.BoolOp .And (a :: b :: rest) pos) (mAndV f g) := by
  refine PE.imp (pe_and ha hb) fun σ H Q h => ?_
  obtain ⟨ρ, μ, S, sr, er, h⟩ := h
  refine ⟨ρ, μ, S, sr, er, Pst.bnd_ h fun v S1 H1 μ1 x e1 sr1 rx h1 => ?_⟩
  cases v with
  | bl c =>
    cases rx
    refine ⟨c, rfl, ?_⟩
    cases c with
    | true => exact ⟨ρ, μ1, S1, sr1, er.ext e1, h1⟩
    | false => exact Pst.here h1 sr1 (.bl _)
  | _ => exact h1.elim
end

/-! ### a built-in function by name, by values -/
def rCof (K : PySem.W.Frag) (mg : Str → Option Value) (T : Tb) (m : List Vl → MO Vl) : List V → Hp → VK → Prop := fun xs H Q => ∃ (μ : Nat → Addr) (S : Sto) (as : List Vl), SRel K mg T H μ S ∧ RpAll K mg H μ S.n as xs ∧ PstO K mg T (rl K mg) H μ S.n Q (m as S)
abbrev CaS (X : Cx) (T : Tb) (f : Value) (m : List Vl → MO Vl) : Prop := CallR X f (rCof X.K X.mg T m)
def mBi (m : List Vl → MO Vl) (g : En → M (List Vl)) : En → M Vl := fun ρ => bnd (g ρ) fun xs => lift (m xs)
section
variable {X : Cx} {T : Tb} {W : WX} {pos p : Pos} {x : Str} {id Ty : String} {m : List Vl → MO Vl} {e : Expr} {es : List Expr} {g : En → M (List Vl)}
theorem tCB_of {σ : L2.St} {H : Hp} {Q : VK} (h : tOf X.K X.mg T W (mBi m g) σ H Q) : tCB (rCof X.K X.mg T m) (tOfA X.K X.mg T W g) σ H Q := by
  obtain ⟨ρ, μ, S, sr, er, h⟩ := h
  refine ⟨ρ, μ, S, sr, er, Pst.bnd_ h fun v S1 H1 μ1 x e1 sr1 rx h1 => ?_⟩
  exact ⟨μ1, S1, v, sr1, rx, h1.lift_⟩
theorem se_bi (hc : CaS X T (.builtin id) m) (hm : X.mg x = none) (hv : bootBuiltins x = some (.builtin id)) (ha : SA X T W (e :: es) g) (hg : Gl X x := by rfl) (hn : x ≠ "__name__" := by decide) (hdb : (x == ("__debug__" : Str)) = false := by decide)
    (he : starEach (e :: es) X.env = (false, eval e X.env) :: starEach es X.env := by rfl) (hpl : (backTo pos (starEach es X.env)).any (·.1) = false := by rfl) : SE X T W (.Call (.Name x p) (e :: es) [] pos) (mBi m g) :=
  PE.imp (pe_callB hc hg hm hv ha hn hdb he hpl) fun σ H Q h => tCB_of h
theorem se_ty (hc : CaS X T (.type Ty) m) (hm : X.mg x = none) (hv : bootBuiltins x = some (.type Ty)) (ha : SA X T W (e :: es) g) (hg : Gl X x := by rfl) (hn : x ≠ "__name__" := by decide) (hdb : (x == ("__debug__" : Str)) = false := by decide)
    (he : starEach (e :: es) X.env = (false, eval e X.env) :: starEach es X.env := by rfl) (hpl : (backTo pos (starEach es X.env)).any (·.1) = false := by rfl) : SE X T W (.Call (.Name x p) (e :: es) [] pos) (mBi m g) :=
  PE.imp (pe_callTy hc hg hm hv ha hn hdb he hpl) fun σ H Q h => tCB_of h
/-- a built-in class as a value -/
theorem se_bty (hm : X.mg x = none) (hv : bootBuiltins x = some (.type Ty)) (hg : Gl X x := by rfl) (hn : x ≠ "__name__" := by decide) (hdb : (x == ("__debug__" : Str)) = false := by decide) : SE X T W (.Name x pos) (mC (.ty Ty)) :=
  PE.imp (pe_bltn hg hm hv (v := .ty Ty) rfl hn hdb) fun σ H Q ⟨ρ, μ, S, sr, er, h⟩ => Pst.here (x := V.ty Ty) h sr (.ty Ty)
end

/-! ### calls of defs -/
def spF (K : PySem.W.Frag) (mg : Str → Option Value) (T : Tb) (n : Nat) (f : List Vl → M Vl) : Sp := fun vs H Q E => vs.length = n ∧ ∃ (μ : Nat → Addr) (S : Sto) (as : List Vl), SRel K mg T H μ S ∧ RpAll K mg H μ S.n as vs ∧ Pst K mg T (fun cls d H' => E cls d H') (rl K mg) H μ S.n Q (f as S)
/-- a def's promise; where g, it leans on there being no text of a container under way -/
structure FnQ (g : Bool) (P : Program) (w : World) (K : PySem.W.Frag) (mg : Str → Option Value) (base : Heap) (k : Nat) (f : Addr) (fd : FuncData) (ps : List Str) (sp : Sp) : Prop where
  len : ∀ vs H Q E, sp vs H Q E → vs.length = ps.length
  run : ∀ (A : Around) (outer : List Env) (s : Shared) (H : Hp) (args : Args) (us : List Value) (vs : List V) (Q : VK) (E : XK), Room k A → (g = true → A.guards = some []) → Env0 P w K mg base A outer s H → BindsTo s fd args (ps.zip us) → Vals vs us → sp vs H Q E →
    codeAny (model P w) A (.call (.ref f) args) (CR (L2.CX P w) outer P w H s Q E) s
/-- the def x, called with arguments behind which dvs are filled in, does as f says -/
structure CalS (g : Bool) (P : Program) (w : World) (K : PySem.W.Frag) (mg : Str → Option Value) (T : Tb) (base : Heap) (k : Nat) (x : Str) (dvs : List Vl) (f : List Vl → M Vl) : Prop where
  ex : ∃ (a : Addr) (fd : FuncData) (ps : List Str) (ds : List Value) (dvV : List V), mg x = some (.ref a) ∧ PySem.W.keepIn K (.ref a) = true ∧ FnQ g P w K mg base k a fd ps (spF K mg T ps.length f) ∧ (∀ as S, as.length ≠ ps.length → f as S = none) ∧ Binds K fd ps ds ∧ Vals dvV ds ∧ ∀ H μ N, RpAll K mg H μ N dvs dvV
def mCall (f : List Vl → M Vl) (dvs : List Vl) (g : En → M (List Vl)) : En → M Vl := fun ρ => bnd (g ρ) fun vs => f (vs ++ dvs)
section
variable {X : Cx} {T : Tb} {W : WX} {k : Nat} {x : Str} {dvs : List Vl} {f : List Vl → M Vl} {p pos : Pos} {e : Expr} {es : List Expr} {g : En → M (List Vl)}
theorem run_fnD {b : Bool} {fa : Addr} {fd : FuncData} {ps : List Str} {sp : Sp} {ds : List Value} {dvV : List V} {E : L2.St → XK} {pins : List (Addr × Obj)} {σ : L2.St} {H : Hp} {s : Shared} {Q : VK} {us : List Value} {vs : List V} (F : FnQ b X.prog X.w X.K X.mg X.base k fa fd ps sp) (hr : Room k X.A) (hgd : b = true → X.A.guards = some []) (hb : Binds X.K fd ps ds) (hd : Vals dvV ds) (hx : PassesAt (L2.CX X.prog X.w) X σ (E σ))
    (I : Inv X pins σ H s) (r : Vals vs us) (h : sp (vs ++ dvV) H Q (E σ)) : wpAny (model X.prog X.w) X.A (call (.ref fa) us) (EP X pins σ Q) X.xe s := by
  have r2 : Vals (vs ++ dvV) (us ++ ds) := r.append hd
  have hl : (us ++ ds).length = ps.length := by rw [← r2.length]; exact F.len _ _ _ _ h
  refine wpAny_call (codeAny_mono (F.run X.A X.stack s H ⟨us, []⟩ (us ++ ds) (vs ++ dvV) Q (E σ) hr hgd I.env0 (hb s us I.kIn hl) r2 h) fun r s' hq => ?_)
  cases r with
  | error e => exact hx pins H s e s' I hq
  | ok fl =>
    cases fl with
    | ret u => exact I.after hq
    | next => exact False.elim hq
    | brk => exact False.elim hq
    | cont => exact False.elim hq
theorem se_call {b : Bool} (c : CalS b X.prog X.w X.K X.mg T X.base k x dvs f) (hr : Room k X.A) (hgd : b = true → X.A.guards = some []) (tk : Takes X W) (ha : SA X T W (e :: es) g) (hg : Gl X x := by rfl) (hdb : (x == ("__debug__" : Str)) = false := by decide)
    (he : starEach (e :: es) X.env = (false, eval e X.env) :: starEach es X.env := by rfl) (hpl : (backTo pos (starEach es X.env)).any (·.1) = false := by rfl) : SE X T W (.Call (.Name x p) (e :: es) [] pos) (mCall f dvs g) := by
  obtain ⟨a, fd, ps, ds, dvV, hm, hk, F, hlen, hb, hd, hdv⟩ := c.ex
  refine ⟨fun pins s σ H Q I h => ?_⟩
  obtain ⟨ρ, μ, S, sr, er, h⟩ := h
  refine wpAny_Call_Name_kw (ld_glob I hg hm ?_ hdb)
  refine PySem.W.callWith_K (h₀ := X.base) I.ok.mod.kin hk (thn (ha.run pos pins s σ H (fun vs H1 => spF X.K X.mg T ps.length f (vs ++ dvV) H1 Q (WE W σ)) I ⟨ρ, μ, S, sr, er, Pst.bnd_ h fun v S1 H1 μ1 x e1 sr1 rx h1 => ?_⟩) fun us s1 ⟨vs, H1, I1, r, q⟩ => ⟨I1.kIn, ?_⟩) he hpl
  · have rr := RpAll.append rx (hdv H1 μ1 S1.n)
    refine ⟨?_, μ1, S1, v ++ dvs, sr1, rr, h1⟩
    rw [← rr.length]
    by_cases hz : (v ++ dvs).length = ps.length
    · exact hz
    · rw [hlen _ _ hz] at h1; exact h1.elim
  · exact run_fnD (E := WE W) F hr hgd hb hd (passAt tk σ) I1 r q
end
end Q

set_option linter.all false
set_option maxRecDepth 100000
set_option maxHeartbeats 400000
namespace Q
open PySem PySem.Spec PyProof.Rows L2

/-! ### statements -/
def sRet (f : En → M Vl) : MS := fun ρ S => match f ρ S with
  | none => none
  | some (.ok v, S') => some (.rt v, ρ, S')
  | some (.exc c g v, S') => some (.ex c g v, ρ, S')
def sExp (f : En → M Vl) : MS := fun ρ S => match f ρ S with
  | none => none
  | some (.ok _, S') => some (.nx, ρ, S')
  | some (.exc c g v, S') => some (.ex c g v, ρ, S')
def sSeq (a b : MS) : MS := fun ρ S => match a ρ S with
  | some (.nx, ρ', S') => b ρ' S'
  | o => o
def sSkip : MS := fun ρ S => some (.nx, ρ, S)
def sBreak : MS := fun ρ S => some (.bk, ρ, S)
def sCont : MS := fun ρ S => some (.ct, ρ, S)
def sIf (c : En → M Bool) (a b : MS) : MS := fun ρ S => match c ρ S with
  | none => none
  | some (.ok true, S') => a ρ S'
  | some (.ok false, S') => b ρ S'
  | some (.exc c g v, S') => some (.ex c g v, ρ, S')
def sAsg (f : En → M Vl) (g : Vl → En → MO En) : MS := fun ρ S => match f ρ S with
  | none => none
  | some (.ok v, S') => (match g v ρ S' with
    | none => none
    | some (ρ', S2) => some (.nx, ρ', S2))
  | some (.exc c g v, S') => some (.ex c g v, ρ, S')
def gNm (i : Nat) : Vl → En → MO En := fun v ρ S => some (ρ.set i (some v), S)
def gTp (gs : List (Vl → En → MO En)) : Vl → En → MO En := fun v ρ S => match v with
  | .tup xs => go gs xs ρ S
  | _ => none
where go : List (Vl → En → MO En) → List Vl → En → MO En
  | [], [], ρ, S => some (ρ, S)
  | g :: gs, x :: xs, ρ, S => match g x ρ S with
    | none => none
    | some (ρ', S') => go gs xs ρ' S'
  | _, _, _, _ => none
/-- a op= b at a name -/
def sAug (i : Nat) (f : En → M Vl) (m : Vl → Vl → MO Vl) : MS := fun ρ S => match ρ[i]? with
  | some (some x) => (match f ρ S with
    | none => none
    | some (.ok v, S') => (match m x v S' with
      | none => none
      | some (z, S2) => some (.nx, ρ.set i (some z), S2))
    | some (.exc c g v, S') => some (.ex c g v, ρ, S'))
  | _ => none
section
variable {K : PySem.W.Frag} {mg : Str → Option Value} {T : Tb} {W : WX} {H : Hp} {μ : Nat → Addr} {S : Sto} {N : Nat} {ρ : En} {σ : L2.St}
/-- an exception of an expression, under a statement's wish -/
theorem exc_of {c f : Str} {v : Vl} {S' : Sto} {D : Ends} (er : ERel K mg H μ N ρ σ) (h : PstS K mg T W H μ N D (some (.ex c f v, ρ, S'))) {α β : Type} {rel : Hp → (Nat → Addr) → Nat → α → β → Prop} {Q : β → Hp → Prop} : Pst K mg T (fun cls d H' => W cls d σ H') rel H μ N Q (some (.exc c f v, S')) :=
  fun H' μ' cls d e sr x => h H' μ' σ cls d e sr (er.ext e) x
end

section
variable {X : Cx} {T : Tb} {W : WX} {pos : Pos}
theorem ss_ret {e : Expr} {f : En → M Vl} (h : SE X T W e f) : SS X T W (.Return (some e) pos) (sRet f) := by
  refine PS.imp (ps_ret h) fun D σ H q => ?_
  obtain ⟨ρ, μ, S, sr, er, q⟩ := q
  refine ⟨ρ, μ, S, sr, er, ?_⟩
  unfold sRet at q
  cases e : f ρ S with
  | none => rw [e] at q; exact q
  | some p =>
    obtain ⟨r, S'⟩ := p
    rw [e] at q
    cases r with
    | ok v => exact q
    | exc c g v => exact exc_of er q
theorem sss_nil : SSs X T W [] sSkip := PSs.imp pss_nil fun D σ H ⟨ρ, μ, S, sr, er, q⟩ => q H μ σ Ext.refl sr er
theorem sss_one {st : Stmt} {f : MS} (h : SS X T W st f) : SSs X T W [st] f := pss_one h
theorem seq_of {K : PySem.W.Frag} {mg : Str → Option Value} {T : Tb} {H : Hp} {μ : Nat → Addr} {N : Nat} {a b : MS} {ρ : En} {S : Sto} {D : Ends} (q : PstS K mg T W H μ N D (sSeq a b ρ S)) : PstS K mg T W H μ N { D with nx := tOfS K mg T W b D } (a ρ S) := by
  unfold sSeq at q
  cases e : a ρ S with
  | none => rw [e] at q; exact q
  | some p =>
    obtain ⟨r, ρ', S'⟩ := p
    rw [e] at q
    cases r with
    | nx => exact fun H' μ' σ' e' sr' er' => ⟨ρ', μ', S', sr', er', q.step e'⟩
    | bk => exact q
    | ct => exact q
    | rt v => exact q
    | ex c f v => exact q
theorem sss_cons {st : Stmt} {rest : List Stmt} {f g : MS} (h1 : SS X T W st f) (h2 : SSs X T W rest g) : SSs X T W (st :: rest) (sSeq f g) := by
  refine PSs.imp (pss_cons h1 h2) fun D σ H q => ?_
  obtain ⟨ρ, μ, S, sr, er, q⟩ := q
  exact ⟨ρ, μ, S, sr, er, seq_of q⟩
theorem ss_if {c : Expr} {a b : List Stmt} {fc : En → M Bool} {f g : MS} (hc : ST X T W c fc) (ha : SSs X T W a f) (hb : SSs X T W b g) : SS X T W (.If c a b pos) (sIf fc f g) := by
  refine PS.imp (ps_if hc ha hb) fun D σ H q => ?_
  obtain ⟨ρ, μ, S, sr, er, q⟩ := q
  refine ⟨ρ, μ, S, sr, er, ?_⟩
  unfold sIf at q
  cases e : fc ρ S with
  | none => rw [e] at q; exact q
  | some p =>
    obtain ⟨r, S'⟩ := p
    rw [e] at q
    cases r with
    | ok v =>
      cases v with
      | true => exact fun H' μ' x e' sr' rx => by cases (show true = x from rx); exact ⟨ρ, μ', S', sr', er.ext e', q.step e'⟩
      | false => exact fun H' μ' x e' sr' rx => by cases (show false = x from rx); exact ⟨ρ, μ', S', sr', er.ext e', q.step e'⟩
    | exc c g v => exact exc_of er q
/-! ### targets, assignments -/
theorem sg_name (i : Nat) {x : Str} (hN : X.N.Nodup) (hi : X.N[i]? = some x := by rfl) (hx : Loc X.env.scope x := by first | exact Or.inl rfl | exact Or.inr rfl) (hf : X.fn x = true ∨ X.env.scope.names.lookup x = some .local := by first | exact .inl rfl | exact .inr rfl | assumption) : SG X T (.Name x pos) (gNm i) :=
  PG.imp (pg_name hN hi hx hf) fun v σ H Q ⟨ρ, μ, S, w, sr, er, rw_, q⟩ => q H μ _ Ext.refl sr (er.set i rw_)
theorem PGs.imp {X : Cx} {e : List Expr} {t t' : TGs} (h : PGs X e t) (i : ∀ v σ H Q, t' v σ H Q → t v σ H Q) : PGs X e t' := ⟨fun pins s σ H v u Q I r q => h.run pins s σ H v u Q I r (i v σ H Q q)⟩
theorem asg_of {f : En → M Vl} {g : Vl → En → MO En} {D : Ends} {σ : L2.St} {H : Hp} (q : tOfS X.K X.mg T W (sAsg f g) D σ H) : tAsg (tOf X.K X.mg T W f) (tOfG X.K X.mg T g) D σ H := by
  obtain ⟨ρ, μ, S, sr, er, q⟩ := q
  refine ⟨ρ, μ, S, sr, er, ?_⟩
  unfold sAsg at q
  cases e : f ρ S with
  | none => rw [e] at q; exact q
  | some p =>
    obtain ⟨r, S'⟩ := p
    rw [e] at q
    cases r with
    | ok v =>
      intro H' μ' x e' sr' rx
      refine ⟨ρ, μ', S', v, sr', er.ext e', rx, ?_⟩
      simp only at q
      cases e2 : g v ρ S' with
      | none => rw [e2] at q; exact q
      | some p2 =>
        obtain ⟨ρ2, S2⟩ := p2
        rw [e2] at q
        exact fun H2 μ2 σ2 e3 sr3 er3 => q H2 μ2 σ2 (e'.trans e3) sr3 er3
    | exc c g v => exact exc_of er q
theorem ss_set (i : Nat) {x : Str} {e : Expr} {f : En → M Vl} {pos' : Pos} (hN : X.N.Nodup) (he : SE X T W e f) (hi : X.N[i]? = some x := by rfl) (hx : Loc X.env.scope x := by first | exact Or.inl rfl | exact Or.inr rfl)
    (hs : swapsWith e (some (.Name x pos')) pos.line X.env = pure false := by rfl) (hf : X.fn x = true ∨ X.env.scope.names.lookup x = some .local := by first | exact .inl rfl | exact .inr rfl | assumption) : SS X T W (.Assign [.Name x pos'] e pos) (sAsg f (gNm i)) := by
  refine PS.imp (ps_set hN hi hx he hs hf) fun D σ H q => ?_
  obtain ⟨ρ, μ, S, sr, er, q⟩ := q
  refine ⟨ρ, μ, S, sr, er, ?_⟩
  unfold sAsg at q
  cases e : f ρ S with
  | none => rw [e] at q; exact q
  | some p =>
    obtain ⟨r, S'⟩ := p
    rw [e] at q
    cases r with
    | ok v => exact fun H' μ' x e' sr' rx => q H' μ' _ e' sr' ((er.ext e').set i rx)
    | exc c g v => exact exc_of er q
theorem ss_asg {tg e : Expr} {f : En → M Vl} {g : Vl → En → MO En} (he : SE X T W e f) (hg : SG X T tg g) (hs : swapsWithSole [tg] e pos.line X.env = pure false := by rfl) (hw : swappedStores [tg] e X.env = pure none := by rfl)
    (h1 : (assignEach [tg] X.env).map (·.2) = [assign tg X.env] := by rfl) : SS X T W (.Assign [tg] e pos) (sAsg f g) := PS.imp (ps_asg he hg hs hw h1) fun D σ H q => asg_of q
/-- a, b = x, y: plain local names -/
def sPar (is : List Nat) (g : En → M (List Vl)) : MS := fun ρ S => match g ρ S with
  | none => none
  | some (.ok vs, S') => if vs.length = is.length then some (.nx, (is.zip vs).foldl (fun ρ p => ρ.set p.1 (some p.2)) ρ, S') else none
  | some (.exc c g v, S') => some (.ex c g v, ρ, S')
theorem ss_par (i j : Nat) {x y : Str} {a b : Expr} {g : En → M (List Vl)} {px py pt : Pos} {kt k2 pt2} (hc : X.calm = true) (hN : X.N.Nodup) (ha : SA X T W [a, b] g)
    (hw : swappedStores [.Tuple [.Name x px, .Name y py] kt pt] (.Tuple [a, b] k2 pt2) X.env = pure (some [x, y])) (hi : X.N[i]? = some x := by rfl) (hj : X.N[j]? = some y := by rfl) (hij : i ≠ j := by decide)
    (hx : X.env.scope.names.lookup x = some .local := by rfl) (hy : X.env.scope.names.lookup y = some .local := by rfl)
    (hs : swapsWithSole [.Tuple [.Name x px, .Name y py] kt pt] (.Tuple [a, b] k2 pt2) pos.line X.env = pure false := by rfl) :
    SS X T W (.Assign [.Tuple [.Name x px, .Name y py] kt pt] (.Tuple [a, b] k2 pt2) pos) (sPar [i, j] g) := by
  refine PS.imp (ps_par hc hN hi hj hij hx hy ha hw hs) fun D σ H q => ?_
  obtain ⟨ρ, μ, S, sr, er, q⟩ := q
  refine ⟨ρ, μ, S, sr, er, ?_⟩
  unfold sPar at q
  cases e : g ρ S with
  | none => rw [e] at q; exact q
  | some p =>
    obtain ⟨r, S'⟩ := p
    rw [e] at q
    cases r with
    | ok vs =>
      intro H' μ' xs e' sr' rx
      simp only at q
      match vs, rx, q with
      | [v, w], .cons r1 (.cons r2 .nil), q => exact ⟨_, _, rfl, q H' μ' _ e' sr' (((er.ext e').set i r1).set j r2)⟩
      | [], _, q => exact q.elim
      | [_], _, q => exact q.elim
      | _ :: _ :: _ :: _, _, q => rw [if_neg (by simp)] at q; exact q.elim
    | exc c g v => exact exc_of er q
end

/-! ### while -/
open Classical in
noncomputable def lim {α : Type} (f : Nat → Option α) : Option α := if h : ∃ n, (f n).isSome = true then f (Classical.choose h) else none
theorem lim_some {α : Type} {f : Nat → Option α} {r : α} (h : lim f = some r) : ∃ n, f n = some r := by
  unfold lim at h
  split at h
  · exact ⟨_, h⟩
  · cases h
section
variable {X : Cx} {T : Tb} {W : WX} {pos : Pos}
theorem pstS_lim {K : PySem.W.Frag} {mg : Str → Option Value} {T : Tb} {H : Hp} {μ : Nat → Addr} {N : Nat} {D : Ends} {f : Nat → Option (Fl × En × Sto)} (h : PstS K mg T W H μ N D (lim f)) : ∃ n, PstS K mg T W H μ N D (f n) := by
  cases e : lim f with
  | none => rw [e] at h; exact h.elim
  | some r =>
    obtain ⟨n, q⟩ := lim_some e
    exact ⟨n, by rw [q, ← e]; exact h⟩
end
end Q

set_option linter.all false
set_option maxRecDepth 100000
set_option maxHeartbeats 400000
namespace Q
open PySem PySem.Spec PyProof.Rows L2

/-! ### what is walked -/
/-- at turn i: none: not known; some none: it stops; some (some v): it yields v -/
abbrev Nxt := Nat → Sto → Option (Option Vl)
structure ItR (K : PySem.W.Frag) (mg : Str → Option Value) (T : Tb) (H₀ : Hp) (μ₀ : Nat → Addr) (N₀ : Nat) (nx : Nxt) (J : It) : Prop where
  stop : ∀ i H μ S, Ext H₀ μ₀ N₀ H μ S.n → SRel K mg T H μ S → nx i S = some none → J.stop i H
  go : ∀ i H μ S v, Ext H₀ μ₀ N₀ H μ S.n → SRel K mg T H μ S → nx i S = some (some v) → J.go i H
  yld : ∀ i H μ S v, Ext H₀ μ₀ N₀ H μ S.n → SRel K mg T H μ S → nx i S = some (some v) → ∀ x H', J.yld i H x H' → Ext H μ S.n H' μ S.n ∧ SRel K mg T H' μ S ∧ Rp K mg H' μ S.n v x
def tOfI (K : PySem.W.Frag) (mg : Str → Option Value) (T : Tb) (W : WX) (f : En → M Nxt) : TI := fun σ H R => ∃ (ρ : En) (μ : Nat → Addr) (S : Sto), SRel K mg T H μ S ∧ ERel K mg H μ S.n ρ σ ∧ Pst K mg T (fun cls d H' => W cls d σ H') (fun H' μ' N' nx J => ItR K mg T H' μ' N' nx J) H μ S.n (fun J H' => R J H') (f ρ S)
abbrev SI (X : Cx) (T : Tb) (W : WX) (tg e : Expr) (f : En → M Nxt) : Prop := PI X tg e (tOfI X.K X.mg T W f)
theorem PI.imp {X : Cx} {tg e : Expr} {t t' : TI} (h : PI X tg e t) (i : ∀ σ H R, t' σ H R → t σ H R) : PI X tg e t' := ⟨fun pins s σ H R I q => h.run pins s σ H R I (i σ H R q)⟩
/-- a list as it stands at each turn -/
def nxL (n : Nat) : Nxt := fun i S => match getR S n with
  | some xs => (match xs[i]? with | some v => some (some v) | none => some none)
  | none => none
def nxT (xs : List Vl) : Nxt := fun i _ => some xs[i]?
def nxS (z : Str) : Nxt := fun i _ => some ((z.cps[i]?).map fun c => .str ⟨#[c]⟩)
section
variable {K : PySem.W.Frag} {mg : Str → Option Value} {T : Tb} {H : Hp} {μ : Nat → Addr} {S : Sto} {N : Nat}
theorem read_sq {n : Nat} {xs : List Vl} (sr : SRel K mg T H μ S) (hn : n < S.n) (e : getR S n = some xs) : ∃ vs, SqL K H (μ n) vs ∧ RpAll K mg H μ S.n xs vs := by
  obtain ⟨vs, _, h1, h2⟩ := Rp.read_at sr (.ref n hn) e
  exact ⟨vs, h1, h2⟩
theorem itr_list {H₀ : Hp} {μ₀ : Nat → Addr} {N₀ n : Nat} (hn : n < N₀) : ItR K mg T H₀ μ₀ N₀ (nxL n) (Itl K (μ₀ n)) := by
  refine ⟨fun i H μ S e sr q => ?_, fun i H μ S v e sr q => ?_, fun i H μ S v e sr q x H' y => ?_⟩
  · unfold nxL at q
    cases g : getR S n with
    | none => rw [g] at q; cases q
    | some xs =>
      rw [g] at q
      obtain ⟨vs, h1, h2⟩ := read_sq sr (Nat.lt_of_lt_of_le hn e.le) g
      rw [e.mu n hn] at h1
      refine ⟨vs, h1, ?_⟩
      rw [← h2.length]
      cases z : xs[i]? with
      | none => exact List.getElem?_eq_none_iff.mp z
      | some w => simp only [z] at q; cases q
  · unfold nxL at q
    cases g : getR S n with
    | none => rw [g] at q; cases q
    | some xs =>
      rw [g] at q
      obtain ⟨vs, h1, h2⟩ := read_sq sr (Nat.lt_of_lt_of_le hn e.le) g
      rw [e.mu n hn] at h1
      cases z : xs[i]? with
      | none => simp only [z] at q; cases q
      | some w =>
        obtain ⟨u, h3, h4⟩ := h2.get z
        exact ⟨vs, u, h1, h3⟩
  · unfold nxL at q
    cases g : getR S n with
    | none => rw [g] at q; cases q
    | some xs =>
      rw [g] at q
      obtain ⟨vs, h1, h2⟩ := read_sq sr (Nat.lt_of_lt_of_le hn e.le) g
      rw [e.mu n hn] at h1
      cases z : xs[i]? with
      | none => simp only [z] at q; cases q
      | some w =>
        simp only [z] at q
        cases q
        obtain ⟨u, h3, h4⟩ := h2.get z
        obtain ⟨rfl, hy⟩ := y
        have := hy vs h1
        rw [h3] at this
        cases this
        exact ⟨Ext.refl, sr, h4⟩
theorem itr_tup {H₀ : Hp} {μ₀ : Nat → Addr} {N₀ : Nat} {a : Addr} {xs : List Vl} {vs : List V} (h : SqT K H₀ a vs) (r : RpAll K mg H₀ μ₀ N₀ xs vs) : ItR K mg T H₀ μ₀ N₀ (nxT xs) (Itt K a) := by
  refine ⟨fun i H μ S e sr q => ?_, fun i H μ S v e sr q => ?_, fun i H μ S v e sr q x H' y => ?_⟩
  · refine ⟨vs, e.sqT h, ?_⟩
    rw [← r.length]
    exact List.getElem?_eq_none_iff.mp (Option.some.inj q)
  · obtain ⟨u, h3, h4⟩ := r.get (Option.some.inj q)
    exact ⟨vs, u, e.sqT h, h3⟩
  · obtain ⟨u, h3, h4⟩ := r.get (Option.some.inj q)
    obtain ⟨rfl, hy⟩ := y
    have := hy vs (e.sqT h)
    rw [h3] at this
    cases this
    exact ⟨Ext.refl, sr, h4.ext e⟩
theorem itr_str {H₀ : Hp} {μ₀ : Nat → Addr} {N₀ : Nat} {z : Str} : ItR K mg T H₀ μ₀ N₀ (nxS z) (Its z) := by
  refine ⟨fun i H μ S e sr q => ?_, fun i H μ S v e sr q => ?_, fun i H μ S v e sr q x H' y => ?_⟩
  · have q := Option.some.inj q
    cases w : z.cps[i]? with
    | none => exact Array.getElem?_eq_none_iff.mp w
    | some c => rw [w] at q; cases q
  · have q := Option.some.inj q
    cases w : z.cps[i]? with
    | none => rw [w] at q; cases q
    | some c => exact (Array.getElem?_eq_some_iff.mp w).1
  · have q := Option.some.inj q
    obtain ⟨rfl, c, hc, rfl⟩ := y
    rw [hc] at q
    cases q
    exact ⟨Ext.refl, sr, .str _⟩
end

def mIt (f : En → M Vl) : En → M Nxt := fun ρ => bnd (f ρ) fun v S => match v with
  | .ref n => (match getR S n with | some _ => some (.ok (nxL n), S) | none => none)
  | .tup xs => some (.ok (nxT xs), S)
  | .str z => some (.ok (nxS z), S)
  | _ => none
section
variable {X : Cx} {T : Tb} {W : WX} {tg : Expr} {pos p : Pos}
theorem it_list {pins : List (Addr × Obj)} {σ : L2.St} {H : Hp} {s : Shared} {a : Addr} {xs : List V} {R : It → Hp → Prop} (I : Inv X pins σ H s) (hq : SqL X.K H a xs) (q : R (Itl X.K a) H) : wpAny (model X.prog X.w) X.A (pyIter (.ref a)) (PIE X pins σ tg R) X.xe s := by
  obtain ⟨its, rv, p, hz⟩ := I.list hq
  refine wpAny_pyIter_list p.isList ?_
  refine ⟨s.heap.objs.size, [s.heap.objs.size], _, _, H, rfl, I.kept (t' := s.toks) fun b o e => Heap.get?_push_of_some _ e, turn_list a _, ⟨_, Heap.get?_push_size _ rfl, rfl, rfl⟩, fun b hb => ?_, q⟩
  have e : b = s.heap.objs.size := by simpa using hb
  subst e
  exact I.fpOk (Nat.le_refl _) (I.hok.fresh (Nat.le_refl _))
theorem it_tup {pins : List (Addr × Obj)} {σ : L2.St} {H : Hp} {s : Shared} {a : Addr} {xs : List V} {R : It → Hp → Prop} (I : Inv X pins σ H s) (hq : SqT X.K H a xs) (q : R (Itt X.K a) H) : wpAny (model X.prog X.w) X.A (pyIter (.ref a)) (PIE X pins σ tg R) X.xe s := by
  obtain ⟨its, rv, p, hz⟩ := I.tuple hq
  refine wpAny_pyIter_tuple (show s.heap.IsTuple a its.toArray from p) ?_
  refine ⟨s.heap.objs.size, [s.heap.objs.size], _, _, H, rfl, I.kept (t' := s.toks) fun b o e => Heap.get?_push_of_some _ e, turn_tuple a _, ⟨_, Heap.get?_push_size _ rfl, rfl, rfl⟩, fun b hb => ?_, q⟩
  have e : b = s.heap.objs.size := by simpa using hb
  subst e
  exact I.fpOk (Nat.le_refl _) (I.hok.fresh (Nat.le_refl _))
theorem it_str {pins : List (Addr × Obj)} {σ : L2.St} {H : Hp} {s : Shared} {x : Str} {t : Tok} {R : It → Hp → Prop} (I : Inv X pins σ H s) (q : R (Its x) H) : wpAny (model X.prog X.w) X.A (pyIter (.str x t)) (PIE X pins σ tg R) X.xe s := by
  cases ha : x.cps.all (· < 128)
  · exact wpAny_pyIter_wide ha (pi_one (tk := s.toks) I _ (turn_str _ x t "str_iterator" (.inr rfl)) ⟨_, Heap.get?_push_size _ rfl, rfl, rfl⟩ q)
  · exact wpAny_pyIter_ascii ha (pi_one (tk := s.toks) I _ (turn_str _ x t "str_ascii_iterator" (.inl rfl)) ⟨_, Heap.get?_push_size _ rfl, rfl, rfl⟩ q)
/-- a list, a tuple or a text walked -/
theorem si_val {e : Expr} {f : En → M Vl} (h : SE X T W e f) : SI X T W tg e (mIt f) := by
  refine ⟨fun pins s σ H R I q => ?_⟩
  obtain ⟨ρ, μ, S, sr, er, q⟩ := q
  refine thn (h.run pins s σ H (fun x H1 => ∀ (u : Value) (s1 : Shared), Inv X pins σ H1 s1 → RelV x u → wpAny (model X.prog X.w) X.A (pyIter u) (PIE X pins σ tg R) X.xe s1) I ⟨ρ, μ, S, sr, er, Pst.bnd_ q fun v S1 H1 μ1 x e1 sr1 rx h1 => ?_⟩) fun u s1 ⟨x, H1, I1, r1, q1⟩ => q1 u s1 I1 r1
  intro u s1 I1 r1
  cases v with
  | ref n =>
    cases rx with
    | ref n hn =>
    have h1 : Pst X.K X.mg T (fun cls d H' => W cls d σ H') (fun H' μ' N' nx J => ItR X.K X.mg T H' μ' N' nx J) H1 μ1 S1.n (fun J H' => R J H') (match getR S1 n with | some _ => some (.ok (nxL n), S1) | none => none) := h1
    cases g : getR S1 n with
    | none => rw [g] at h1; exact h1.elim
    | some xs =>
      rw [g] at h1
      obtain ⟨vs, k1, k2⟩ := read_sq sr1 hn g
      cases r1
      exact it_list I1 k1 (h1 H1 μ1 _ Ext.refl sr1 (itr_list hn))
  | tup xs =>
    obtain ⟨a, vs, rfl, k1, k2⟩ := Rp.tup_at rx
    cases r1
    exact it_tup I1 k1 (h1 H1 μ1 _ Ext.refl sr1 (itr_tup k1 k2))
  | str z =>
    cases rx
    obtain ⟨t, rfl⟩ := r1
    exact it_str I1 (h1 H1 μ1 _ Ext.refl sr1 itr_str)
  | _ => exact h1.elim
end

/-! ### for -/
def forN (nx : Nxt) (g : Vl → En → MO En) (b : MS) : Nat → Nat → MS
  | 0, _ => fun _ _ => none
  | n + 1, i => fun ρ S => match nx i S with
    | none => none
    | some none => some (.nx, ρ, S)
    | some (some v) => match g v ρ S with
      | none => none
      | some (ρ1, S1) => match b ρ1 S1 with
        | some (.nx, ρ', S2) => forN nx g b n (i + 1) ρ' S2
        | some (.ct, ρ', S2) => forN nx g b n (i + 1) ρ' S2
        | some (.bk, ρ', S2) => some (.nx, ρ', S2)
        | o => o
noncomputable def sFor (fi : En → M Nxt) (g : Vl → En → MO En) (b : MS) : MS := fun ρ S => match fi ρ S with
  | none => none
  | some (.exc c f v, S') => some (.ex c f v, ρ, S')
  | some (.ok nx, S') => lim fun n => forN nx g b n 0 ρ S'
section
variable {X : Cx} {T : Tb} {W : WX} {tg : Expr} {pos p : Pos}
theorem ss_for {iter : Expr} {body : List Stmt} {fi : En → M Nxt} {g : Vl → En → MO En} {b : MS} (hp : PassesOwn (model X.prog X.w) X.A X.env X.xe) (hc : X.calm = true) (hi : SI X T W tg iter fi) (hg : SG X T tg g) (hb : SSs X T W body b)
    (hs : ∀ x, foldedSetIterable iter X.env x = pure x := by intro _; rfl) : SS X T W (.For tg iter body [] pos) (sFor fi g b) := by
  refine PS.imp (ps_for hp hc hi hg hb hs) fun D σ H q => ?_
  obtain ⟨ρ, μ, S, sr, er, q⟩ := q
  refine ⟨ρ, μ, S, sr, er, ?_⟩
  unfold sFor at q
  cases e : fi ρ S with
  | none => rw [e] at q; exact q
  | some pp =>
    obtain ⟨r, S'⟩ := pp
    rw [e] at q
    cases r with
    | exc c f v => exact exc_of er q
    | ok nx =>
      intro H₁ μ₁ J e' sr' ir
      obtain ⟨n, q⟩ := pstS_lim q
      refine ⟨fun i m σ H => ∃ (ρ : En) (μ : Nat → Addr) (S : Sto), Ext H₁ μ₁ S'.n H μ S.n ∧ SRel X.K X.mg T H μ S ∧ ERel X.K X.mg H μ S.n ρ σ ∧ PstS X.K X.mg T W H μ S.n D (forN nx g b m i ρ S), ⟨n, ρ, μ₁, S', Ext.refl, sr', er.ext e', q.step e'⟩, fun i m σ H hw => ?_⟩
      obtain ⟨ρ, μ, S, ex, sr, er, q⟩ := hw
      cases m with
      | zero => exact q.elim
      | succ m =>
        unfold forN at q
        cases en : nx i S with
        | none => rw [en] at q; exact q.elim
        | some o =>
          rw [en] at q
          cases o with
          | none => exact .inl ⟨ir.stop i H μ S ex sr en, q H μ σ Ext.refl sr er⟩
          | some v =>
            refine .inr ⟨ir.go i H μ S v ex sr en, _, fun σ' H' hh => ⟨m, Nat.lt_succ_self m, hh⟩, fun x H' y => ?_⟩
            obtain ⟨e2, sr2, r2⟩ := ir.yld i H μ S v ex sr en x H' y
            refine ⟨ρ, μ, S, v, sr2, er.ext e2, r2, ?_⟩
            simp only at q
            cases eg : g v ρ S with
            | none => rw [eg] at q; exact q
            | some p1 =>
              obtain ⟨ρ1, S1⟩ := p1
              rw [eg] at q
              intro H3 μ3 σ3 e3 sr3 er3
              refine ⟨ρ1, μ3, S1, sr3, er3, ?_⟩
              have e13 := e2.trans e3
              simp only at q
              cases eb : b ρ1 S1 with
              | none => rw [eb] at q; exact q
              | some p2 =>
                obtain ⟨f2, ρ2, S2⟩ := p2
                rw [eb] at q
                cases f2 with
                | nx => exact fun H4 μ4 σ4 e4 sr4 er4 => ⟨ρ2, μ4, S2, ex.trans (e13.trans e4), sr4, er4, q.step (e13.trans e4)⟩
                | ct => exact fun H4 μ4 σ4 e4 sr4 er4 => ⟨ρ2, μ4, S2, ex.trans (e13.trans e4), sr4, er4, q.step (e13.trans e4)⟩
                | bk => exact fun H4 μ4 σ4 e4 sr4 er4 => q H4 μ4 σ4 (e13.trans e4) sr4 er4
                | rt v => exact fun H4 μ4 x4 e4 sr4 r4 => q H4 μ4 x4 (e13.trans e4) sr4 r4
                | ex c f v => exact fun H4 μ4 σ4 cls d e4 sr4 er4 => q H4 μ4 σ4 cls d (e13.trans e4) sr4 er4
end
end Q

set_option linter.all false
set_option maxRecDepth 100000
set_option maxHeartbeats 400000
namespace Q
open PySem PySem.Spec PyProof.Rows L2

/-! ### comprehensions -/
inductive Tg where
  | nm (i : Nat) | tp (is : List Nat)
def setAll : List Nat → List Vl → En → Option En
  | [], [], ρ => some ρ
  | i :: is, x :: xs, ρ => setAll is xs (ρ.set i (some x))
  | _, _, _ => none
def Tg.run : Tg → Vl → En → Option En
  | .nm i, v, ρ => some (ρ.set i (some v))
  | .tp is, .tup xs, ρ => setAll is xs ρ
  | .tp _, _, _ => none
def Tg.slots : Tg → List Nat
  | .nm i => [i]
  | .tp is => is
def gNms : List Nat → TGs
  | [] => gNil
  | i :: is => gCons (gName i) (gNms is)
def Tg.rd (K : PySem.W.Frag) : Tg → TG
  | .nm i => gName i
  | .tp is => gTup K is.length (gNms is)
def wipeE (ρ : En) : List Nat → En
  | [] => ρ
  | v :: vs => (wipeE ρ vs).set v none
theorem wipe_set {σ : L2.St} {i : Nat} {x : Option V} : ∀ {vs : List Nat}, i ∈ vs → wipe (σ.set i x) vs = wipe σ vs
  | v :: vs, h => by
    unfold wipe
    by_cases e : i ∈ vs
    · rw [wipe_set e]
    · have e2 : i = v := by
        rcases List.mem_cons.mp h with z | z
        · exact z
        · exact absurd z e
      subst e2
      have key : ∀ {vs : List Nat}, i ∉ vs → wipe (σ.set i x) vs = (wipe σ vs).set i x := by
        intro vs
        induction vs with
        | nil => intro _; rfl
        | cons w ws ih =>
          intro hn
          unfold wipe
          rw [ih (fun z => hn (List.mem_cons_of_mem _ z)), List.set_comm _ _ (fun z => hn (by rw [z]; exact List.mem_cons_self))]
      rw [key e, List.set_set]
theorem wipe_wipe {σ : L2.St} : ∀ (vs ws : List Nat), (∀ v ∈ vs, v ∈ ws) → wipe (wipe σ vs) ws = wipe σ ws
  | [], _, _ => rfl
  | v :: vs, ws, h => by
    show wipe ((wipe σ vs).set v none) ws = _
    rw [wipe_set (h v List.mem_cons_self), wipe_wipe vs ws (fun u hu => h u (List.mem_cons_of_mem _ hu))]
section
variable {K : PySem.W.Frag} {mg : Str → Option Value} {T : Tb} {H : Hp} {μ : Nat → Addr} {N : Nat}
theorem ERel.unset {ρ : En} {σ : L2.St} (h : ERel K mg H μ N ρ σ) (i : Nat) {o : Option V} : ERel K mg H μ N (ρ.set i none) (σ.set i o) := by
  refine ⟨by simp [h.len], fun j w q => ?_⟩
  by_cases e : i = j
  · subst e
    by_cases hl : i < ρ.length
    · rw [List.getElem?_set_self hl] at q; cases q
    · rw [List.getElem?_eq_none (by simpa using hl)] at q; cases q
  · rw [List.getElem?_set_ne e] at q
    obtain ⟨y, h1, h2⟩ := h.at_ j w q
    exact ⟨y, by rw [List.getElem?_set_ne e]; exact h1, h2⟩
theorem ERel.wipe {ρ : En} {σ : L2.St} (h : ERel K mg H μ N ρ σ) : ∀ vs, ERel K mg H μ N (wipeE ρ vs) (wipe σ vs)
  | [] => h
  | v :: vs => (ERel.wipe h vs).unset v
theorem gNms_of {ws : List Nat} : ∀ {is : List Nat} {xs : List Vl} {vs : List V} {ρ ρ1 : En} {σ : L2.St} {Q : L2.St → Hp → Prop}, setAll is xs ρ = some ρ1 → RpAll K mg H μ N xs vs → ERel K mg H μ N ρ σ → (∀ i ∈ is, i ∈ ws) →
    (∀ σ2, ERel K mg H μ N ρ1 σ2 → L2.wipe σ2 ws = L2.wipe σ ws → Q σ2 H) → gNms is vs σ H Q
  | [], [], _, _, _, σ, _, e, .nil, er, _, q => by cases e; exact ⟨rfl, q σ er rfl⟩
  | i :: is, x :: xs, _, _, _, σ, _, e, .cons r rs, er, hs, q => by
    refine ⟨_, _, rfl, gNms_of (ws := ws) e rs (er.set i r) (fun j hj => hs j (List.mem_cons_of_mem _ hj)) fun σ2 e2 w2 => q σ2 e2 ?_⟩
    rw [w2, wipe_set (hs i List.mem_cons_self)]
  | [], _ :: _, _, _, _, _, _, e, _, _, _, _ => by cases e
  | _ :: _, [], _, _, _, _, _, e, _, _, _, _ => by cases e
theorem setAll_len : ∀ {is : List Nat} {xs : List Vl} {ρ ρ1 : En}, setAll is xs ρ = some ρ1 → is.length = xs.length
  | [], [], _, _, _ => rfl
  | _ :: is, _ :: xs, _, _, e => by
    have := setAll_len (is := is) (xs := xs) e
    simp [this]
  | [], _ :: _, _, _, e => by cases e
  | _ :: _, [], _, _, e => by cases e
theorem Tg.rd_of {t : Tg} {v : Vl} {x : V} {ρ ρ1 : En} {σ : L2.St} {ws : List Nat} {Q : L2.St → Hp → Prop} (e : t.run v ρ = some ρ1) (r : Rp K mg H μ N v x) (er : ERel K mg H μ N ρ σ) (hs : ∀ i ∈ t.slots, i ∈ ws)
    (q : ∀ σ2, ERel K mg H μ N ρ1 σ2 → L2.wipe σ2 ws = L2.wipe σ ws → Q σ2 H) : t.rd K x σ H Q := by
  cases t with
  | nm i =>
    cases e
    exact q _ (er.set i r) (wipe_set (hs i List.mem_cons_self))
  | tp is =>
    cases v with
    | tup xs =>
      obtain ⟨a, vs, rfl, h1, r1⟩ := r.tup_at
      exact ⟨a, vs, rfl, h1, by rw [← r1.length, setAll_len e], gNms_of e r1 er hs q⟩
    | _ => cases e
end
def lcN (nx : Nxt) (t : Tg) (c : En → M Bool) (f : En → M Vl) (D : Nat) (ρ : En) : Nat → Nat → Sto → Option Sto
  | 0, _, _ => none
  | n + 1, i, S => match nx i S with
    | none => none
    | some none => some S
    | some (some v) => match t.run v ρ with
      | none => none
      | some ρ1 => match c ρ1 S with
        | some (.ok true, S1) => (match f ρ1 S1 with
          | some (.ok y, S2) => (match S2.at_ D with
            | .lst acc => if acc.length < sizeLine then lcN nx t c f D ρ n (i + 1) (S2.set D (.lst (acc ++ [y]))) else none
            | _ => none)
          | _ => none)
        | some (.ok false, S1) => lcN nx t c f D ρ n (i + 1) S1
        | _ => none
noncomputable def mLc (fi : En → M Nxt) (t : Tg) (c : En → M Bool) (f : En → M Vl) (vs : List Nat) : En → M Vl := fun ρ S => match fi ρ S with
  | none => none
  | some (.exc c g v, S') => some (.exc c g v, S')
  | some (.ok nx, S') => match lim fun n => lcN nx t c f S'.n (wipeE ρ vs) n 0 (S'.push (.lst [])) with
    | none => none
    | some S2 => some (.ok (.ref S'.n), S2)
abbrev W0 : WX := fun _ _ _ _ => False
def mTrue : En → M Bool := fun _ => ret true
section
variable {X : Cx} {T : Tb} {W : WX} {tg : Expr} {pos p : Pos}
abbrev STs (X : Cx) (T : Tb) (W : WX) (es : List Expr) (f : En → M Bool) : Prop := PTs X es (tOfT X.K X.mg T W f)
theorem PTs.imp {X : Cx} {es : List Expr} {t t' : TT} (h : PTs X es t) (i : ∀ σ H Q, t' σ H Q → t σ H Q) : PTs X es t' := ⟨fun pins s σ H Q I q => h.run pins s σ H Q I (i σ H Q q)⟩
theorem sts_nil : STs X T W [] mTrue := PTs.imp pts_nil fun σ H Q ⟨ρ, μ, S, sr, er, q⟩ => Pst.here (x := true) q sr rfl
theorem sts_one {c : Expr} {f : En → M Bool} (h : ST X T W c f) : STs X T W [c] f := pts_one h
theorem lc_of {K : PySem.W.Frag} {mg : Str → Option Value} {T : Tb} {W : WX} {fi : En → M Nxt} {t : Tg} {c : En → M Bool} {f : En → M Vl} {vs : List Nat} (hs : ∀ i ∈ t.slots, i ∈ vs) {σ : L2.St} {H : Hp} {Q : VK} (q : tOf K mg T W (mLc fi t c f vs) σ H Q) :
    tLc (tOfI K mg T W fi) (t.rd K) (tOfT K mg T W0 c) (tOf K mg T W0 f) vs σ H Q := by
  obtain ⟨ρ, μ, S, sr, er, q⟩ := q
  refine ⟨ρ, μ, S, sr, er, ?_⟩
  unfold mLc at q
  cases e : fi ρ S with
  | none => rw [e] at q; exact q
  | some pp =>
    obtain ⟨r, S'⟩ := pp
    rw [e] at q
    cases r with
    | exc c f v => exact q
    | ok nx =>
      intro H₁ μ₁ J e' sr' ir D hD
      simp only at q
      cases el : lim fun n => lcN nx t c f S'.n (wipeE ρ vs) n 0 (S'.push (.lst [])) with
      | none => rw [el] at q; exact q.elim
      | some Sf =>
        rw [el] at q
        obtain ⟨n, el⟩ := lim_some el
        have eN := ext_new (μ := μ₁) (o := HO.lst []) hD S'.n (S'.n + 1) (Nat.le_succ _)
        have srN : SRel K mg T (upd H₁ D (.lst [])) (mu1 μ₁ S'.n D) (S'.push (.lst [])) := sr'.push hD ⟨[], upd_same, .nil⟩
        refine ⟨fun i m H => ∃ (μ : Nat → Addr) (S : Sto), Ext (upd H₁ D (.lst [])) (mu1 μ₁ S'.n D) (S'.n + 1) H μ S.n ∧ SRel K mg T H μ S ∧ lcN nx t c f S'.n (wipeE ρ vs) m i S = some Sf, ⟨n, _, _, Ext.refl, srN, el⟩, fun i m H hw => ?_⟩
        obtain ⟨μ, S, ex, sr, el⟩ := hw
        have ex1 := eN.trans ex
        have hDn : S'.n < S.n := Nat.lt_of_lt_of_le (Nat.lt_succ_self _) ex.le
        have muD : μ S'.n = D := by rw [ex.mu _ (Nat.lt_succ_self _), mu1_same]
        cases m with
        | zero => cases el
        | succ m =>
          unfold lcN at el
          cases en : nx i S with
          | none => rw [en] at el; cases el
          | some o =>
            rw [en] at el
            cases o with
            | none =>
              cases el
              refine .inl ⟨ir.stop i H μ _ ex1 sr en, ?_⟩
              have := Rp.ref (K := K) (mg := mg) (H := H) (μ := μ) S'.n hDn
              rw [muD] at this
              exact q H μ (.ref D) (e'.trans ex1) sr this
            | some v =>
              refine .inr ⟨ir.go i H μ S v ex1 sr en, _, fun H' hh => ⟨m, Nat.lt_succ_self m, hh⟩, fun x H' y => ?_⟩
              obtain ⟨e2, sr2, r2⟩ := ir.yld i H μ S v ex1 sr en x H' y
              simp only at el
              cases et : t.run v (wipeE ρ vs) with
              | none => rw [et] at el; cases el
              | some ρ1 =>
                rw [et] at el
                have erw : ERel K mg H' μ S.n (wipeE ρ vs) (wipe σ vs) := (er.ext ((e'.trans ex1).trans e2)).wipe vs
                refine Tg.rd_of et r2 erw hs fun σ2 er2 w2 => ⟨by rw [w2, wipe_wipe vs vs fun _ h => h], ρ1, μ, S, sr2, er2, ?_⟩
                simp only at el
                cases ec : c ρ1 S with
                | none => rw [ec] at el; cases el
                | some pc =>
                  obtain ⟨rc, S1⟩ := pc
                  rw [ec] at el
                  cases rc with
                  | exc c f v => cases el
                  | ok b =>
                    intro H3 μ3 b' e3 sr3 rb
                    cases (show b = b' from rb)
                    cases b with
                    | false => exact ⟨μ3, S1, (ex.trans e2).trans e3, sr3, el⟩
                    | true =>
                      rw [if_pos rfl]
                      refine ⟨ρ1, μ3, S1, sr3, er2.ext e3, ?_⟩
                      simp only at el
                      cases ef : f ρ1 S1 with
                      | none => rw [ef] at el; cases el
                      | some pf =>
                        obtain ⟨rf, S2⟩ := pf
                        rw [ef] at el
                        cases rf with
                        | exc c f v => cases el
                        | ok y =>
                          intro H4 μ4 yv e4 sr4 ry
                          have exx := ((ex.trans e2).trans e3).trans e4
                          have hD4 : S'.n < S2.n := Nat.lt_of_lt_of_le (Nat.lt_succ_self _) exx.le
                          have mu4 : μ4 S'.n = D := by rw [exx.mu _ (Nat.lt_succ_self _), mu1_same]
                          simp only at el
                          cases ea : S2.at_ S'.n with
                          | lst acc =>
                            rw [ea] at el
                            simp only at el
                            have ob := sr4.at_ _ hD4
                            rw [ea, mu4] at ob
                            obtain ⟨as, k1, k2⟩ := ob
                            by_cases hz : acc.length < sizeLine
                            · rw [if_pos hz] at el
                              refine ⟨as, k1, by rw [← k2.length]; exact hz, ?_⟩
                              have wr := sr4.write (k := S'.n) (o := .lst (as ++ [yv])) (ob := .lst (acc ++ [y])) hD4 (by rw [ea]; rfl) rfl (by rw [mu4, k1]; intro xs z; cases z) (by rw [mu4, k1]; intro o u z; cases z) (by rw [mu4, k1]; intro o z; cases z) (by rw [mu4, k1]; intro o z; cases z) (fun ew => by
                                rw [mu4] at ew ⊢
                                exact ⟨_, upd_same, (k2.ext ew).append (.cons (ry.ext ew) .nil)⟩)
                              rw [mu4] at wr
                              exact ⟨μ4, S2.set S'.n (.lst (acc ++ [y])), exx.trans wr.2, wr.1, el⟩
                            · rw [if_neg hz] at el; cases el
                          | _ => rw [ea] at el; cases el
/-- [elt for tg in iter if ..] -/
theorem se_lc {elt iter : Expr} {ifs : List Expr} {scope : Scope} (own : List (Str × Nat)) {fi : En → M Nxt} {t : Tg} {c : En → M Bool} {f : En → M Vl} (hc : X.calm = true) (hN : X.N.Nodup) (hi : SI X T W tg iter fi) (ok : BlkOk X.N X.env.scope scope own)
    (hg : ∀ (s : Shared) (H : Hp) (C : Addr) (cl : List (Str × Addr)) (fp : List Addr), PG (X.blk s H scope (compEnvC scope cl C X.env) fp) tg (t.rd X.K)) (ht : ∀ (s : Shared) (H : Hp) (C : Addr) (cl : List (Str × Addr)) (fp : List Addr), STs (X.blk s H scope (compEnvC scope cl C X.env) fp) T W0 ifs c)
    (he : ∀ (s : Shared) (H : Hp) (C : Addr) (cl : List (Str × Addr)) (fp : List Addr), SE (X.blk s H scope (compEnvC scope cl C X.env) fp) T W0 elt f) (hsl : ∀ i ∈ t.slots, i ∈ own.map (·.2) := by decide) (hs : ∀ x, foldedSetIterable iter X.env x = pure x := by intro _; rfl) :
    SE X T W (.ListComp elt [⟨tg, iter, ifs, 0⟩] scope pos) (mLc fi t c f (own.map (·.2))) :=
  PE.imp (pe_lc (tt := tOfT X.K X.mg T W0 c) (te := tOf X.K X.mg T W0 f) hc hN hi ok hg ht he hs) fun σ H Q q => lc_of hsl q
/-- name = [..] -/
theorem ss_setLc (i : Nat) {y : Str} {py : Pos} {elt iter : Expr} {ifs : List Expr} {scope : Scope} (own : List (Str × Nat)) {spos : Pos} {fi : En → M Nxt} {t : Tg} {c : En → M Bool} {f : En → M Vl} (hc : X.calm = true) (hN : X.N.Nodup) (hsw : swapsWith (.ListComp elt [⟨tg, iter, ifs, 0⟩] scope pos) (some (.Name y py)) spos.line X.env = pure true) (hi : SI X T W tg iter fi) (ok : BlkOk X.N X.env.scope scope own)
    (hg : ∀ (s : Shared) (H : Hp) (C : Addr) (cl : List (Str × Addr)) (fp : List Addr), PG (X.blk s H scope (compEnvC scope cl C X.env) fp) tg (t.rd X.K)) (ht : ∀ (s : Shared) (H : Hp) (C : Addr) (cl : List (Str × Addr)) (fp : List Addr), STs (X.blk s H scope (compEnvC scope cl C X.env) fp) T W0 ifs c)
    (he : ∀ (s : Shared) (H : Hp) (C : Addr) (cl : List (Str × Addr)) (fp : List Addr), SE (X.blk s H scope (compEnvC scope cl C X.env) fp) T W0 elt f) (hsl : ∀ i ∈ t.slots, i ∈ own.map (·.2) := by decide)
    (hy : X.N[i]? = some y := by rfl) (hyl : X.env.scope.names.lookup y = some .local := by rfl) (hs : ∀ x, foldedSetIterable iter X.env x = pure x := by intro _; rfl) :
    SS X T W (.Assign [.Name y py] (.ListComp elt [⟨tg, iter, ifs, 0⟩] scope pos) spos) (sAsg (mLc fi t c f (own.map (·.2))) (gNm i)) := by
  refine PS.imp (ps_setLc (tt := tOfT X.K X.mg T W0 c) (te := tOf X.K X.mg T W0 f) hc hN hy hyl hsw hi ok hg ht he hs) fun D σ H q => ?_
  obtain ⟨ρ, μ, S, sr, er, q⟩ := q
  refine lc_of (W := W) hsl ⟨ρ, μ, S, sr, er, ?_⟩
  unfold sAsg at q
  cases e : mLc fi t c f (own.map (·.2)) ρ S with
  | none => rw [e] at q; exact q
  | some p =>
    obtain ⟨r, S'⟩ := p
    rw [e] at q
    cases r with
    | ok v => exact fun H' μ' x e' sr' rx => q H' μ' _ e' sr' ((er.ext e').set i rx)
    | exc c g v => exact exc_of er q
theorem tg_nm (i : Nat) {X : Cx} {x : Str} {pos : Pos} (hN : X.N.Nodup) (hi : X.N[i]? = some x := by rfl) (hx : Loc X.env.scope x := by first | exact Or.inl rfl | exact Or.inr rfl) (hf : X.fn x = true ∨ X.env.scope.names.lookup x = some .local := by first | exact .inl rfl | exact .inr rfl | assumption) : PG X (.Name x pos) (Tg.rd X.K (.nm i)) := pg_name hN hi hx hf
end
end Q

set_option linter.all false
set_option maxRecDepth 100000
set_option maxHeartbeats 400000
namespace Q
open PySem PySem.Spec PyProof.Rows L2

/-! ### dicts with keys that are ints or texts -/
def keyEq : Vl → Vl → Bool
  | .int i, .int j => i == j
  | .str a, .str b => a == b
  | _, _ => false
def dGet (kvs : List (Vl × Vl)) (k : Vl) : Option Vl := (kvs.find? fun p => keyEq p.1 k).map (·.2)
def dPut (kvs : List (Vl × Vl)) (k v : Vl) : List (Vl × Vl) :=
  if (kvs.any fun p => keyEq p.1 k) = true then kvs.map fun p => if keyEq p.1 k then (p.1, v) else p else kvs ++ [(k, v)]
def getD (S : Sto) (n : Nat) : Option (List (Vl × Vl)) := match S.at_ n with
  | .dic _ kvs => some kvs
  | _ => none
section
variable {K : PySem.W.Frag} {mg : Str → Option Value} {T : Tb} {H : Hp} {μ : Nat → Addr} {S : Sto} {N : Nat}
theorem keyOf_rel {k : Vl} {κ : Key} {x : V} (h : keyOf k = some κ) (r : Rp K mg H μ N k x) : x = kV κ := by
  cases k with
  | int i => cases h; cases r; rfl
  | str i => cases h; cases r; rfl
  | _ => cases h
theorem keyEq_iff {a b : Vl} {κ κ' : Key} (h : keyOf a = some κ) (h' : keyOf b = some κ') : keyEq a b = decide (κ = κ') := by
  cases a with
  | int i =>
    cases b with
    | int j => cases h; cases h'; rw [Bool.eq_iff_iff]; simp [keyEq]
    | str j => cases h; cases h'; simp [keyEq]
    | _ => cases h'
  | str i =>
    cases b with
    | int j => cases h; cases h'; simp [keyEq]
    | str j => cases h; cases h'; rw [Bool.eq_iff_iff]; simp [keyEq]
    | _ => cases h'
  | _ => cases h
theorem RpK.get {k : Vl} {κ : Key} (hk : keyOf k = some κ) : ∀ {kvs : List (Vl × Vl)} {vs : List (Key × V)}, RpK K mg H μ N kvs vs → (∀ x, dGet kvs k = some x → ∃ v, valV vs κ = some v ∧ Rp K mg H μ N x v) ∧ (dGet kvs k = none → valV vs κ = none)
  | _, _, .nil => ⟨fun _ e => (by cases e), fun _ => rfl⟩
  | _, _, .cons (k := k0) (x := x0) (κ := κ0) (v := v0) (xs := xs) (vs := ws) h0 r rs => by
    have ih := RpK.get hk rs
    by_cases e : κ0 = κ
    · have q : keyEq k0 k = true := by rw [keyEq_iff h0 hk]; exact decide_eq_true e
      have q1 : dGet ((k0, x0) :: xs) k = some x0 := by unfold dGet; rw [List.find?_cons, q]; rfl
      refine ⟨fun x hx => ?_, fun hx => by rw [q1] at hx; cases hx⟩
      rw [q1] at hx; cases hx
      exact ⟨v0, valV_pos e, r⟩
    · have q : keyEq k0 k = false := by rw [keyEq_iff h0 hk]; exact decide_eq_false e
      have q1 : dGet ((k0, x0) :: xs) k = dGet xs k := by unfold dGet; rw [List.find?_cons, q]
      rw [q1, valV_neg (p := (κ0, v0)) e]
      exact ih
theorem RpK.length {kvs : List (Vl × Vl)} {vs : List (Key × V)} (h : RpK K mg H μ N kvs vs) : kvs.length = vs.length := by
  induction h with
  | nil => rfl
  | cons _ _ _ ih => simp [ih]
theorem RpK.any {k : Vl} {κ : Key} (hk : keyOf k = some κ) {kvs : List (Vl × Vl)} {vs : List (Key × V)} (h : RpK K mg H μ N kvs vs) : (kvs.any fun p => keyEq p.1 k) = vs.any fun p => decide (p.1 = κ) := by
  induction h with
  | nil => rfl
  | cons h0 _ _ ih => rw [List.any_cons, List.any_cons, ih, keyEq_iff h0 hk]
theorem RpK.map {k : Vl} {κ : Key} (hk : keyOf k = some κ) {x : Vl} {v : V} (rv : Rp K mg H μ N x v) {kvs : List (Vl × Vl)} {vs : List (Key × V)} (h : RpK K mg H μ N kvs vs) :
    RpK K mg H μ N (kvs.map fun p => if keyEq p.1 k then (p.1, x) else p) (vs.map fun p => if p.1 = κ then (p.1, v) else p) := by
  induction h with
  | nil => exact .nil
  | @cons k0 x0 κ0 v0 xs ws h0 r _ ih =>
    rw [List.map_cons, List.map_cons, keyEq_iff h0 hk]
    by_cases e : κ0 = κ
    · simp only [e, decide_true, if_true]; exact .cons (by rw [← e]; exact h0) rv ih
    · simp only [e, decide_false, if_false]; exact .cons h0 r ih
theorem RpK.append {kvs kvs' : List (Vl × Vl)} {vs vs' : List (Key × V)} (h : RpK K mg H μ N kvs vs) (h' : RpK K mg H μ N kvs' vs') : RpK K mg H μ N (kvs ++ kvs') (vs ++ vs') := by
  induction h with
  | nil => exact h'
  | cons h0 r _ ih => exact .cons h0 r ih
theorem RpK.put {k : Vl} {κ : Key} (hk : keyOf k = some κ) {x : Vl} {v : V} (rv : Rp K mg H μ N x v) {kvs : List (Vl × Vl)} {vs : List (Key × V)} (h : RpK K mg H μ N kvs vs) : RpK K mg H μ N (dPut kvs k x) (putK vs κ v) := by
  unfold dPut putK
  rw [h.any hk]
  by_cases e : (vs.any fun p => decide (p.1 = κ)) = true
  · rw [if_pos e, if_pos e]; exact h.map hk rv
  · rw [if_neg e, if_neg e]; exact h.append (.cons hk rv .nil)
theorem dic_at {n : Nat} {lk : Bool} {kvs : List (Vl × Vl)} (sr : SRel K mg T H μ S) (hn : n < S.n) (e : S.at_ n = .dic lk kvs) : ∃ vs, Rd H (μ n) (.dK vs) ∧ RpK K mg H μ S.n kvs vs := by
  have q := sr.at_ n hn
  rw [e] at q
  cases lk with
  | false => obtain ⟨vs, h1, h2⟩ := q; exact ⟨vs, .inl h1, h2⟩
  | true => obtain ⟨o, vs, h1, h2⟩ := q; exact ⟨vs, .inr ⟨o, h1⟩, h2⟩
theorem getD_at {n : Nat} {kvs : List (Vl × Vl)} (sr : SRel K mg T H μ S) (hn : n < S.n) (e : getD S n = some kvs) : ∃ vs, Rd H (μ n) (.dK vs) ∧ RpK K mg H μ S.n kvs vs := by
  unfold getD at e
  cases q : S.at_ n with
  | dic lk ks => rw [q] at e; cases e; exact dic_at sr hn q
  | _ => rw [q] at e; cases e
theorem DGet.rd {a : Addr} {vs : List (Key × V)} {κ : Key} (e : Rd H a (.dK vs)) : DGet H a (kV κ) (valV vs κ) := .inl ⟨vs, κ, e, rfl, rfl⟩
end
/-- o[i] -/
def bSub' : Vl → Vl → MO Vl := fun a b S => match a with
  | .ref n => (match getD S n with
    | some kvs => (match keyOf b with
      | some _ => (match dGet kvs b with | some v => some (v, S) | none => none)
      | none => none)
    | none => bIdx a b S)
  | _ => bIdx a b S
section
variable {X : Cx} {T : Tb} {W : WX} {pos : Pos}
theorem ixr_idx : IxR X (rOf X.K X.mg T bIdx) := by
  intro value slice pins s σ H x y v u Q I rx ry h hs
  obtain ⟨μ, S, a, b, sr, ra, rb, h⟩ := h
  cases b with
  | int i =>
    cases rb
    cases a with
    | tup xs =>
      obtain ⟨p, vs, rfl, h1, r1⟩ := ra.tup_at
      have h : PstO X.K X.mg T (rl X.K X.mg) H μ S.n Q (match atI xs i with | some v => some (v, S) | none => none) := h
      cases q : atI xs i with
      | none => rw [q] at h; exact h.elim
      | some w =>
        rw [q] at h
        obtain ⟨z, h2, r2⟩ := atI_rel r1 q
        exact ix_tup value slice pins s σ H _ _ v u Q I rx ry ⟨p, vs, i, z, rfl, rfl, h1, h2, h.here sr r2⟩ hs
    | ref n =>
      have h : PstO X.K X.mg T (rl X.K X.mg) H μ S.n Q (match getR S n with
        | some xs => match atI xs i with
          | some v => some (v, S)
          | none => none
        | none => none) := h
      cases g : getR S n with
      | none => rw [g] at h; exact h.elim
      | some xs =>
        rw [g] at h
        simp only at h
        obtain ⟨vs, rfl, h1, r1⟩ := ra.read_at sr g
        cases q : atI xs i with
        | none => rw [q] at h; exact h.elim
        | some w =>
          rw [q] at h
          obtain ⟨z, h2, r2⟩ := atI_rel r1 q
          exact ix_list value slice pins s σ H _ _ v u Q I rx ry ⟨_, vs, i, z, rfl, rfl, h1, h2, h.here sr r2⟩ hs
    | str z =>
      cases ra
      have h : PstO X.K X.mg T (rl X.K X.mg) H μ S.n Q (if z.length ≤ sizeLine then match atI z.cps.toList i with
          | some c => some (.str ⟨#[c]⟩, S)
          | none => none
        else none) := h
      by_cases hz : z.length ≤ sizeLine
      · rw [if_pos hz] at h
        cases q : atI z.cps.toList i with
        | none => rw [q] at h; exact h.elim
        | some c => rw [q] at h; exact ix_str value slice pins s σ H _ _ v u Q I rx ry ⟨z, i, c, rfl, rfl, hz, q, h.here sr (.str _)⟩ hs
      · rw [if_neg hz] at h; exact h.elim
    | _ => exact h.elim
  | _ => cases a <;> exact h.elim
theorem ixr_sub (hu : X.A.units + 1 < cLine) : IxR X (rOf X.K X.mg T bSub') := by
  intro value slice pins s σ H x y v u Q I rx ry h hs
  obtain ⟨μ, S, a, b, sr, ra, rb, h⟩ := h
  have other : PstO X.K X.mg T (rl X.K X.mg) H μ S.n Q (bIdx a b S) → wpAny (model X.prog X.w) X.A (subscriptTail value slice v u) (EP X pins σ Q) X.xe s := fun h' =>
    ixr_idx value slice pins s σ H x y v u Q I rx ry ⟨μ, S, a, b, sr, ra, rb, h'⟩ hs
  cases a with
  | ref n =>
    have h : PstO X.K X.mg T (rl X.K X.mg) H μ S.n Q (match getD S n with
      | some kvs => (match keyOf b with
        | some _ => (match dGet kvs b with | some v => some (v, S) | none => none)
        | none => none)
      | none => bIdx (.ref n) b S) := h
    cases g : getD S n with
    | none => rw [g] at h; exact other h
    | some kvs =>
      rw [g] at h
      simp only at h
      cases hk : keyOf b with
      | none => rw [hk] at h; exact h.elim
      | some κ =>
        rw [hk] at h
        simp only at h
        cases q : dGet kvs b with
        | none => rw [q] at h; exact h.elim
        | some w =>
          rw [q] at h
          cases ra with
          | ref n hn =>
          obtain ⟨vs, h1, h2⟩ := getD_at sr hn g
          obtain ⟨z, h3, r3⟩ := (h2.get hk).1 w q
          have e := keyOf_rel hk rb
          subst e
          cases rx
          have dg : DGet H (μ n) (kV κ) (some z) := by rw [← h3]; exact DGet.rd h1
          exact tail_any (dict_typeIs I dg) PySem.F.slot_dict_getitem.lookup (d_getItem hu I dg ry fun w' s' I' rw' => ⟨z, H, I', rw', h.here sr r3⟩) hs
  | _ => exact other h
theorem se_sub {a b : Expr} {fa fb : En → M Vl} (hu : X.A.units + 1 < cLine) (ha : SE X T W a fa) (hb : SE X T W b fb) (hs : PlainIx b := by exact fun _ _ => rfl) : SE X T W (.Subscript a b pos) (mBin bSub' fa fb) :=
  PE.imp (pe_ix (ixr_sub hu) ha hb hs) fun σ H Q h => tOp_of h
end

/-! ### o[i] = v -/
def bSet : Vl → Vl → Vl → Sto → Option Sto := fun o i v S => match o with
  | .ref n => (match S.at_ n with
    | .lst xs => (match i with
      | .int k => (match ixN xs.length k with | some j => some (S.set n (.lst (xs.set j v))) | none => none)
      | _ => none)
    | .dic false kvs => (match keyOf i with
      | some _ => if kvs.length < sizeLine then some (S.set n (.dic false (dPut kvs i v))) else none
      | none => none)
    | _ => none)
  | _ => none
def rSof (K : PySem.W.Frag) (mg : Str → Option Value) (T : Tb) : TSet := fun o i v H Q => ∃ (μ : Nat → Addr) (S S' : Sto) (a b c : Vl), SRel K mg T H μ S ∧ Rp K mg H μ S.n a o ∧ Rp K mg H μ S.n b i ∧ Rp K mg H μ S.n c v ∧ bSet a b c S = some S' ∧ ∀ H', Ext H μ S.n H' μ S'.n → SRel K mg T H' μ S' → Q H'
def gSb (fo fi : En → M Vl) : Vl → En → MO En := fun v ρ S => match fo ρ S with
  | some (.ok o, S1) => (match fi ρ S1 with
    | some (.ok i, S2) => (match bSet o i v S2 with | some S3 => some (ρ, S3) | none => none)
    | _ => none)
  | _ => none
section
variable {X : Cx} {T : Tb} {W : WX} {pos : Pos}
theorem set_both (hu : X.A.units + 1 < cLine) : PSet X (rSof X.K X.mg T) := by
  intro pins s σ H o i v ov iv u Q I ro ri rv h
  obtain ⟨μ, S, S', a, b, c, sr, ra, rb, rc, e, q⟩ := h
  cases a with
  | ref n =>
    cases ra with
    | ref n hn =>
    unfold bSet at e
    simp only at e
    cases e1 : S.at_ n with
    | lst xs =>
      rw [e1] at e
      simp only at e
      cases b with
      | int k =>
        cases rb
        simp only at e
        cases e2 : ixN xs.length k with
        | none => rw [e2] at e; cases e
        | some j =>
          rw [e2] at e
          cases e
          have ob := sr.at_ n hn
          rw [e1] at ob
          obtain ⟨vs, h1, h2⟩ := ob
          refine set_list pins s σ H _ _ v ov iv u Q I ro ri rv ⟨μ n, vs, k, j, rfl, rfl, h1, by rw [← h2.length]; exact e2, ?_⟩
          have wr := sr.write (k := n) (o := .lst (vs.set j v)) (ob := .lst (xs.set j c)) hn (by rw [e1]; rfl) rfl (by rw [h1]; intro _ z; cases z) (by rw [h1]; intro _ _ z; cases z) (by rw [h1]; intro _ z; cases z) (by rw [h1]; intro _ z; cases z) (fun ew => ⟨_, upd_same, (h2.ext ew).set j (rc.ext ew)⟩)
          exact q _ wr.2 wr.1
      | _ => cases e
    | dic lk kvs =>
      rw [e1] at e
      cases lk with
      | true => cases e
      | false =>
        simp only at e
        cases hk : keyOf b with
        | none => rw [hk] at e; cases e
        | some κ =>
          rw [hk] at e
          simp only at e
          by_cases hz : kvs.length < sizeLine
          · rw [if_pos hz] at e
            cases e
            have ob := sr.at_ n hn
            rw [e1] at ob
            obtain ⟨vs, h1, h2⟩ := ob
            have ek := keyOf_rel hk rb
            subst ek
            have wr := sr.write (k := n) (o := .dK (putK vs κ v)) (ob := .dic false (dPut kvs b c)) hn (by rw [e1]; rfl) rfl (by rw [h1]; intro _ z; cases z) (by rw [h1]; intro _ _ z; cases z) (by rw [h1]; intro _ z; cases z) (by rw [h1]; intro _ z; cases z) (fun ew => ⟨_, upd_same, (h2.ext ew).put hk (rc.ext ew)⟩)
            exact set_dict hu pins s σ H _ _ v ov iv u Q I ro ri rv ⟨μ n, _, rfl, DPut.k h1 (by rw [← h2.length]; exact hz), q _ wr.2 wr.1⟩
          · rw [if_neg hz] at e; cases e
    | _ => rw [e1] at e; cases e
  | _ => cases e
/-- o[i] as a target: neither o nor i raises -/
theorem sg_sub {o i : Expr} {fo fi : En → M Vl} (hu : X.A.units + 1 < cLine) (ho : SE X T W0 o fo) (hi : SE X T W0 i fi)
    (ha : ∀ v, assign (.Subscript o i pos) X.env v = (do
      let ov ← holding [v] (eval o X.env)
      let iv ← holding [v, ov] (eval i X.env)
      standAt pos
      holding [v, ov, iv] (setItem ov iv v)
      release [v, ov, iv] []) := by intro _; rfl) : SG X T (.Subscript o i pos) (gSb fo fi) := by
  refine PG.imp (pg_sub ho hi (set_both (T := T) hu) ha) fun v σ H Q q => ?_
  obtain ⟨ρ, μ, S, w, sr, er, rw_, q⟩ := q
  refine ⟨ρ, μ, S, sr, er, ?_⟩
  unfold gSb at q
  cases e1 : fo ρ S with
  | none => rw [e1] at q; exact q.elim
  | some p1 =>
    obtain ⟨r1, S1⟩ := p1
    rw [e1] at q
    cases r1 with
    | exc c f v => exact q.elim
    | ok o =>
      intro H1 μ1 x1 ex1 sr1 r1
      refine ⟨ρ, μ1, S1, sr1, er.ext ex1, ?_⟩
      simp only at q
      cases e2 : fi ρ S1 with
      | none => rw [e2] at q; exact q.elim
      | some p2 =>
        obtain ⟨r2, S2⟩ := p2
        rw [e2] at q
        cases r2 with
        | exc c f v => exact q.elim
        | ok i =>
          intro H2 μ2 x2 ex2 sr2 r2
          simp only at q
          cases e3 : bSet o i w S2 with
          | none => rw [e3] at q; exact q.elim
          | some S3 =>
            rw [e3] at q
            exact ⟨μ2, S2, S3, o, i, w, sr2, r1.ext ex2, r2, rw_.ext (ex1.trans ex2), e3, fun H' ex3 sr3 => q H' μ2 σ ((ex1.trans ex2).trans ex3) sr3 (er.ext ((ex1.trans ex2).trans ex3))⟩
end

/-! ### k in d, x in xs, x in text -/
/-- the text x within the text y -/
def inS (x y : Str) : Bool := !(Builtin.Str.occurrences y x 0 y.length 1).isEmpty
def bIn (neg : Bool) : Vl → Vl → MO Vl := fun a b S => match b with
  | .ref n => (match getD S n with
    | some kvs => (match keyOf a with
      | some _ => some (.bl (if neg then !(dGet kvs a).isSome else (dGet kvs a).isSome), S)
      | none => none)
    | none => (match toD S a, toD S b with
      | some d, some (.list ds) => if (SeqAt.shaped d && SeqAt.shaped (.list ds)) = true then some (.bl (if neg then !(ds.any fun z => PyData.eqv z d) else ds.any fun z => PyData.eqv z d), S) else none
      | _, _ => none))
  | .str y => (match a with
    | .str x => some (.bl (if neg then !(inS x y) else inS x y), S)
    | _ => none)
  | _ => none
section
variable {X : Cx} {T : Tb} {W : WX} {pos : Pos}
theorem dGet_opt {K : PySem.W.Frag} {mg : Str → Option Value} {H : Hp} {μ : Nat → Addr} {N : Nat} {k : Vl} {κ : Key} {kvs : List (Vl × Vl)} {vs : List (Key × V)} (hk : keyOf k = some κ) (h : RpK K mg H μ N kvs vs) : (valV vs κ).isSome = (dGet kvs k).isSome := by
  cases q : dGet kvs k with
  | none => rw [(h.get hk).2 q]; rfl
  | some w => obtain ⟨z, h3, _⟩ := (h.get hk).1 w q; rw [h3]; rfl
theorem os_inW {op : CmpOp} {neg : Bool} (hd : ∀ {pins : List (Addr × Obj)} {s : Shared} {σ : L2.St} {H : Hp} {a : Addr} {y : V} {u : Value} {o : Option V} {Q : Value → Shared → Prop}, L2.Inv X pins σ H s → DGet H a y o → RelV y u → (∀ s', L2.Inv X pins σ H s' → Q (.bool (if neg then !o.isSome else o.isSome)) s') → wpAny (model X.prog X.w) X.A (compareOp op u (.ref a)) Q X.xe s)
    (hl : OpR X (compareOp op) fun x y H Q => ∃ d ds, Dp X.K H x d ∧ Dp X.K H y (.list ds) ∧ SeqAt.shaped d = true ∧ SeqAt.shaped (.list ds) = true ∧ Q (.bl (if neg then !(ds.any fun z => PyData.eqv z d) else ds.any fun z => PyData.eqv z d)) H)
    (ht : OpR X (compareOp op) fun x y H Q => ∃ i j, x = .str i ∧ y = .str j ∧ Q (.bl (if neg then !(inS i j) else inS i j)) H) : OpS X T (compareOp op) (bIn neg) := by
  intro pins s σ H x y v u Q I rx ry h
  obtain ⟨μ, S, a, b, sr, ra, rb, h⟩ := h
  cases b with
  | ref n =>
    have rb0 := rb
    cases rb with
    | ref n hn =>
    unfold bIn at h
    simp only at h
    cases g : getD S n with
    | some kvs =>
      rw [g] at h
      simp only at h
      cases hk : keyOf a with
      | none => rw [hk] at h; exact h.elim
      | some κ =>
        rw [hk] at h
        obtain ⟨vs, h1, h2⟩ := getD_at sr hn g
        have e := keyOf_rel hk ra
        subst e
        cases ry
        refine hd I (DGet.rd h1) rx fun s' I' => ⟨.bl (if neg then !(dGet kvs a).isSome else (dGet kvs a).isSome), H, I', ?_, PstO.here h sr (.bl _)⟩
        rw [dGet_opt hk h2]
        rfl
    | none =>
      rw [g] at h
      simp only at h
      cases q1 : toD S a with
      | none => rw [q1] at h; exact h.elim
      | some d =>
        cases q2 : toD S (.ref n) with
        | none => rw [q1, q2] at h; exact h.elim
        | some e =>
          cases e with
          | list ds =>
            rw [q1, q2] at h
            simp only at h
            by_cases hz : (SeqAt.shaped d && SeqAt.shaped (.list ds)) = true
            · rw [if_pos hz] at h
              rw [Bool.and_eq_true] at hz
              exact hl pins s σ H _ _ v u Q I rx ry ⟨d, ds, Dp_toD sr ra q1, Dp_toD sr rb0 q2, hz.1, hz.2, PstO.here h sr (.bl _)⟩
            · rw [if_neg hz] at h; exact h.elim
          | _ => rw [q1, q2] at h; exact h.elim
  | str y =>
    cases rb
    cases a with
    | str x => cases ra; exact ht pins s σ H _ _ v u Q I rx ry ⟨x, y, rfl, rfl, PstO.here h sr (.bl _)⟩
    | _ => exact h.elim
  | _ => exact h.elim
theorem os_in (hu : X.A.units + 65 < cLine) : OpS X T (compareOp .In) (bIn false) :=
  os_inW (fun I g r h => d_in (by omega) I g r h) (fun pins s σ H x y v u Q I rx ry h => op_inD hu pins s σ H x y v u Q I rx ry h) (fun pins s σ H x y v u Q I rx ry h => op_in_str pins s σ H x y v u Q I rx ry h)
end
end Q

set_option linter.all false
set_option maxRecDepth 100000
set_option maxHeartbeats 400000
namespace Q
open PySem PySem.Spec PyProof.Rows L2

/-! ### methods of built-in types -/
def tyB (T : String) (S : Sto) : Vl → Bool
  | .str _ => T == "str"
  | .ref n => (match S.at_ n with
    | .lst _ => T == "list"
    | .ro _ => T == "list"
    | .dic false _ => T == "dict"
    | _ => false)
  | _ => false
def mMet (Ty : String) (m : Vl → List Vl → MO Vl) (f : En → M Vl) (g : En → M (List Vl)) : En → M Vl := fun ρ => bnd (f ρ) fun o S => if tyB Ty S o = true then bnd (g ρ) (fun as => lift (m o as)) S else none
def rMof (K : PySem.W.Frag) (mg : Str → Option Value) (T : Tb) (m : Vl → List Vl → MO Vl) : V → List V → Hp → VK → Prop := fun x xs H Q => ∃ (μ : Nat → Addr) (S : Sto) (o : Vl) (as : List Vl), SRel K mg T H μ S ∧ Rp K mg H μ S.n o x ∧ RpAll K mg H μ S.n as xs ∧ PstO K mg T (rl K mg) H μ S.n Q (m o as S)
abbrev MtS (X : Cx) (T : Tb) (id : String) (m : Vl → List Vl → MO Vl) : Prop := MtR X id (rMof X.K X.mg T m)
section
variable {X : Cx} {T : Tb} {W : WX} {o e : Expr} {es : List Expr} {name : Str} {apos cpos : Pos} {Ty id : String} {m : Vl → List Vl → MO Vl} {f : En → M Vl} {g : En → M (List Vl)}
theorem tyB_is {K : PySem.W.Frag} {mg : Str → Option Value} {H : Hp} {μ : Nat → Addr} {S : Sto} {v : Vl} {x : V} (sr : SRel K mg T H μ S) (r : Rp K mg H μ S.n v x) (h : tyB Ty S v = true) : tyV K Ty x H := by
  cases v with
  | str z => cases r; exact beq_iff_eq.mp h
  | ref n =>
    cases r with
    | ref n hn =>
    have ob := sr.at_ n hn
    unfold tyB at h
    cases q : S.at_ n with
    | lst xs =>
      rw [q] at ob; simp only [q] at h
      obtain ⟨vs, h1, _⟩ := ob
      exact .inl ⟨beq_iff_eq.mp h, vs, .inl (.inl h1)⟩
    | ro xs =>
      rw [q] at ob; simp only [q] at h
      obtain ⟨vs, h1, _⟩ := ob
      refine .inl ⟨beq_iff_eq.mp h, vs, ?_⟩
      rcases h1 with ⟨o, q⟩ | q
      · exact .inl (.inr ⟨o, q⟩)
      · exact .inr q
    | dic lk kvs =>
      rw [q] at ob
      cases lk with
      | false =>
        simp only [q] at h
        obtain ⟨vs, h1, _⟩ := ob
        exact .inr (.inr (.inl ⟨beq_iff_eq.mp h, .inl ⟨vs, h1⟩⟩))
      | true => simp only [q] at h; cases h
    | _ => simp only [q] at h; cases h
  | _ => cases h
theorem tBM_of {σ : L2.St} {H : Hp} {Q : VK} (h : tOf X.K X.mg T W (mMet Ty m f g) σ H Q) : tBM X.K Ty (rMof X.K X.mg T m) (tOf X.K X.mg T W f) (tOfA X.K X.mg T W g) σ H Q := by
  obtain ⟨ρ, μ, S, sr, er, h⟩ := h
  refine ⟨ρ, μ, S, sr, er, Pst.bnd_ h fun v S1 H1 μ1 x e1 sr1 rx h1 => ?_⟩
  by_cases hz : tyB Ty S1 v = true
  · rw [if_pos hz] at h1
    refine ⟨tyB_is sr1 rx hz, ρ, μ1, S1, sr1, er.ext e1, Pst.bnd_ h1 fun as S2 H2 μ2 y e2 sr2 ry h2 => ?_⟩
    exact ⟨μ2, S2, v, as, sr2, Rp.ext e2 rx, ry, h2.lift_⟩
  · rw [if_neg hz] at h1; exact h1.elim
theorem se_met (pa : PlainAttrs Ty) (slot : Slot Ty name id) (hty : typeOf (.builtin id) = pure (.type "method_descriptor")) (hm : MtS X T id m) (ho : SE X T W o f) (ha : SA X T W (e :: es) g)
    (hbase : attributeBase o name X.env (eval o X.env) = eval o X.env := by rfl)
    (hfew : ((backTo cpos (starEach (e :: es) X.env)).all (fun x => !x.1) && (backToKw cpos (keywordEach [] X.env)).all (fun x => x.1.isSome)
      && decide ((e :: es).length + ([] : List Keyword).length + (if ([] : List Keyword).isEmpty then 0 else 1) < 30)) = true := by rfl)
    (hline : (apos.endLine == cpos.line) = true := by rfl) (hs : starEach (e :: es) X.env = (false, eval e X.env) :: starEach es X.env := by rfl) (hplain : (backTo cpos (starEach es X.env)).any (·.1) = false := by rfl) :
    SE X T W (.Call (.Attribute o name apos) (e :: es) [] cpos) (mMet Ty m f g) := PE.imp (pe_bm pa slot hty hm ho ha hbase hfew hline hs hplain) fun σ H Q h => tBM_of h
end

def mtPopAt : Vl → List Vl → MO Vl := fun o as S => match o, as with
  | .ref n, [.int i] => (match S.at_ n with
    | .lst xs => if -(2 ^ 63) ≤ i ∧ i < 2 ^ 63 then (match seqIndex? i xs.length with
      | some k => (match xs[k]? with | some v => some (v, S.set n (.lst (xs.eraseIdx k))) | none => none)
      | none => none) else none
    | _ => none)
  | _, _ => none
section
variable {K : PySem.W.Frag} {mg : Str → Option Value} {T : Tb} {H : Hp} {μ : Nat → Addr} {S : Sto} {N : Nat}
/-- a list of the store written -/
theorem SRel.wlst {n : Nat} {xs ys : List Vl} {vs ws : List V} (sr : SRel K mg T H μ S) (hn : n < S.n) (e : S.at_ n = .lst xs) (h : H (μ n) = some (.lst vs)) (r : RpAll K mg H μ S.n ys ws) :
    SRel K mg T (upd H (μ n) (.lst ws)) μ (S.set n (.lst ys)) ∧ Ext H μ S.n (upd H (μ n) (.lst ws)) μ S.n :=
  sr.write (k := n) (o := .lst ws) (ob := .lst ys) hn (by rw [e]; rfl) rfl (by rw [h]; intro _ z; cases z) (by rw [h]; intro _ _ z; cases z) (by rw [h]; intro _ z; cases z) (by rw [h]; intro _ z; cases z) (fun ew => ⟨_, upd_same, r.ext ew⟩)
theorem RpAll.eraseIdx : ∀ {xs : List Vl} {vs : List V} (i : Nat), RpAll K mg H μ N xs vs → RpAll K mg H μ N (xs.eraseIdx i) (vs.eraseIdx i)
  | _, _, _, .nil => .nil
  | _, _, 0, .cons _ t => t
  | _, _, i + 1, .cons h t => .cons h (RpAll.eraseIdx i t)
end
section
variable {X : Cx} {T : Tb}
theorem ms_popAt : MtS X T "list.pop" mtPopAt := by
  intro pins s σ H x xs v us Q I rx rs h
  obtain ⟨μ, S, o, as, sr, ro, ra, h⟩ := h
  cases o with
  | ref n =>
    cases ra with
    | nil => exact h.elim
    | cons r1 r2 =>
      cases r2 with
      | cons _ _ => cases r1 <;> exact h.elim
      | nil =>
        cases r1 with
        | int i =>
          unfold mtPopAt at h
          simp only at h
          cases q : S.at_ n with
          | lst xs =>
            rw [q] at h
            simp only at h
            obtain ⟨vs, rfl, hn, h1, h2⟩ := ro.lst_at sr q
            by_cases hz : -(2 ^ 63) ≤ i ∧ i < 2 ^ 63
            · rw [if_pos hz] at h
              cases g : seqIndex? i xs.length with
              | none => rw [g] at h; exact h.elim
              | some k =>
                rw [g] at h
                simp only at h
                cases g2 : xs[k]? with
                | none => rw [g2] at h; exact h.elim
                | some w =>
                  rw [g2] at h
                  obtain ⟨y, h3, h4⟩ := h2.get g2
                  have wr := sr.wlst hn q h1 (h2.eraseIdx k)
                  exact mt_popAt pins s σ H _ _ v us Q I rx rs ⟨_, vs, i, k, y, rfl, rfl, h1, hz.1, hz.2, by rw [← h2.length]; exact g, h3, h _ μ y wr.2 wr.1 (h4.ext wr.2)⟩
            · rw [if_neg hz] at h; exact h.elim
          | _ => rw [q] at h; exact h.elim
        | _ => exact h.elim
  | _ => exact h.elim
end
end Q

set_option linter.all false
set_option maxRecDepth 100000
set_option maxHeartbeats 400000
namespace Q
open PySem PySem.Spec PyProof.Rows L2

/-! ### built-ins -/
def tyN (S : Sto) : Vl → Option String
  | .non => some "NoneType"
  | .bl _ => some "bool"
  | .int _ => some "int"
  | .str _ => some "str"
  | .tup _ => some "tuple"
  | .ref n => (match S.at_ n with
    | .lst _ => some "list"
    | .ro _ => some "list"
    | .dic _ _ => some "dict"
    | _ => none)
  | _ => none
def tyNs : List String := ["NoneType", "bool", "int", "str", "tuple", "list", "dict"]
def tyCs : List String := ["bool", "int", "str", "tuple", "list", "dict"]
def isT (a b : String) : Bool := a == b || (a == "bool" && b == "int")
theorem kit_all : (tyNs.all fun a => tyCs.all fun b => decide (kitB a b = some (isT a b))) = true := by decide +kernel
theorem kit_at {a b : String} (h : a ∈ tyNs) (h' : b ∈ tyCs) : kitB a b = some (isT a b) :=
  of_decide_eq_true (List.all_eq_true.mp (List.all_eq_true.mp kit_all a h) b h')
def bIsi : List Vl → MO Vl := fun as S => match as with
  | [v, .ty b] => (match tyN S v with | some a => if b ∈ tyCs then some (.bl (isT a b), S) else none | none => none)
  | _ => none
section
variable {K : PySem.W.Frag} {mg : Str → Option Value} {T : Tb} {H : Hp} {μ : Nat → Addr} {S : Sto} {N : Nat}
theorem tyN_at {v : Vl} {x : V} {a : String} (sr : SRel K mg T H μ S) (r : Rp K mg H μ S.n v x) (h : tyN S v = some a) : TyX K H x (.type a) ∧ a ∈ tyNs := by
  cases v with
  | non => cases h; cases r; exact ⟨.base .non, by decide⟩
  | bl b => cases h; cases r; exact ⟨.base (.bl b), by decide⟩
  | int b => cases h; cases r; exact ⟨.base (.int b), by decide⟩
  | str b => cases h; cases r; exact ⟨.base (.str b), by decide⟩
  | tup xs =>
    cases h
    obtain ⟨p, vs, rfl, h1, _⟩ := r.tup_at
    refine ⟨?_, by decide⟩
    rcases h1 with (h1 | ⟨o, h1⟩) | ⟨o, its, n, h1, h2, _⟩
    · exact .base (.tup h1)
    · exact .fTuple h1
    · exact .kTuple h1 h2
  | ref n =>
    cases r with
    | ref n hn =>
    have ob := sr.at_ n hn
    unfold tyN at h
    cases q : S.at_ n with
    | lst xs =>
      rw [q] at ob; simp only [q] at h; cases h
      obtain ⟨vs, h1, _⟩ := ob
      exact ⟨.base (.lst h1), by decide⟩
    | ro xs =>
      rw [q] at ob; simp only [q] at h; cases h
      obtain ⟨vs, h1, _⟩ := ob
      refine ⟨?_, by decide⟩
      rcases h1 with ⟨o, h1⟩ | ⟨o, its, n, h1, h2, _⟩
      · exact .base (.frz h1)
      · exact .kList h1 h2
    | dic lk kvs =>
      rw [q] at ob; simp only [q] at h; cases h
      cases lk with
      | false => obtain ⟨vs, h1, _⟩ := ob; exact ⟨.base (.dK h1), by decide⟩
      | true => obtain ⟨o, vs, h1, _⟩ := ob; exact ⟨.fDict h1, by decide⟩
    | _ => simp only [q] at h; cases h
  | _ => cases h
theorem bIsi_eq {as : List Vl} {p : Vl × Sto} (h : bIsi as S = some p) : ∃ v b a, as = [v, .ty b] ∧ tyN S v = some a ∧ b ∈ tyCs ∧ p = (.bl (isT a b), S) := by
  unfold bIsi at h
  split at h
  · rename_i v b
    cases e : tyN S v with
    | none => rw [e] at h; cases h
    | some a =>
      rw [e] at h
      simp only at h
      by_cases hb : b ∈ tyCs
      · rw [if_pos hb] at h; cases h; exact ⟨v, b, a, rfl, e, hb, rfl⟩
      · rw [if_neg hb] at h; cases h
  · cases h
end
/-- of an outcome that is there -/
theorem PstO.some_ {K : PySem.W.Frag} {mg : Str → Option Value} {T : Tb} {α β : Type} {rel : Hp → (Nat → Addr) → Nat → α → β → Prop} {H : Hp} {μ : Nat → Addr} {N : Nat} {Q : β → Hp → Prop} {o : Option (α × Sto)} (h : PstO K mg T rel H μ N Q o) : ∃ p, o = some p := by
  cases o with
  | none => exact h.elim
  | some p => exact ⟨p, rfl⟩
section
variable {X : Cx} {T : Tb}
theorem cs_isi : CaS X T (.builtin "isinstance") bIsi := by
  intro pins s σ H xs us Q I rs h
  obtain ⟨μ, S, as, sr, ra, h⟩ := h
  obtain ⟨p, e⟩ := h.some_
  obtain ⟨v, b, a, rfl, h1, h2, rfl⟩ := bIsi_eq e
  rw [e] at h
  cases ra with
  | cons r1 r2 =>
    cases r2 with
    | cons r2 r3 =>
      cases r3
      cases r2
      obtain ⟨ty, ha⟩ := tyN_at sr r1 h1
      exact call_isi pins s σ H _ us Q I rs ⟨_, _, _, _, _, rfl, .ty b, ty, kit_ty (kit_at ha h2), PstO.here h sr (.bl _)⟩
end

/-! ### len, abs, int -/
def bLen : List Vl → MO Vl := fun as S => match as with
  | [.str z] => if z.length ≤ sizeLine then some (.int z.length, S) else none
  | [.tup xs] => some (.int xs.length, S)
  | [.ref n] => (match S.at_ n with
    | .lst xs => some (.int xs.length, S)
    | .ro xs => some (.int xs.length, S)
    | .dic _ kvs => some (.int kvs.length, S)
    | _ => none)
  | _ => none
def bAbs : List Vl → MO Vl := fun as S => match as with
  | [.int i] => some (.int (if i < 0 then -i else i), S)
  | _ => none
def bInt : List Vl → MO Vl := fun as S => match as with
  | [.int i] => some (.int i, S)
  | [.bl b] => some (.int (if b then 1 else 0), S)
  | _ => none
section
variable {K : PySem.W.Frag} {mg : Str → Option Value} {T : Tb} {H : Hp} {μ : Nat → Addr} {S : Sto} {N : Nat}
/-- one argument -/
theorem RpAll.one {a : Vl} {xs : List V} (r : RpAll K mg H μ N [a] xs) : ∃ x, xs = [x] ∧ Rp K mg H μ N a x := by
  cases r with | cons r1 r2 => cases r2; exact ⟨_, rfl, r1⟩
end
section
variable {X : Cx} {T : Tb}
theorem cs_abs : CaS X T (.builtin "abs") bAbs := by
  intro pins s σ H xs us Q I rs h
  obtain ⟨μ, S, as, sr, ra, h⟩ := h
  obtain ⟨p, e⟩ := h.some_
  unfold bAbs at e h
  split at e
  · obtain ⟨x, rfl, r1⟩ := ra.one
    cases r1
    exact call_abs pins s σ H _ us Q I rs ⟨_, rfl, PstO.here h sr (.int _)⟩
  · cases e
theorem cs_int : CaS X T (.type "int") bInt := by
  intro pins s σ H xs us Q I rs h
  obtain ⟨μ, S, as, sr, ra, h⟩ := h
  obtain ⟨p, e⟩ := h.some_
  unfold bInt at e h
  split at e
  · obtain ⟨x, rfl, r1⟩ := ra.one
    cases r1
    exact call_int1 pins s σ H _ us Q I rs (.inl ⟨_, rfl, PstO.here h sr (.int _)⟩)
  · obtain ⟨x, rfl, r1⟩ := ra.one
    cases r1
    exact call_int1 pins s σ H _ us Q I rs (.inr ⟨_, rfl, PstO.here h sr (.int _)⟩)
  · cases e
theorem cs_len : CaS X T (.builtin "len") bLen := by
  intro pins s σ H xs us Q I rs h
  obtain ⟨μ, S, as, sr, ra, h⟩ := h
  obtain ⟨p, e⟩ := h.some_
  unfold bLen at e h
  split at e
  · rename_i z
    obtain ⟨x, rfl, r1⟩ := ra.one
    cases r1
    by_cases hz : z.length ≤ sizeLine
    · simp only [if_pos hz] at h
      exact call_len pins s σ H _ us Q I rs ⟨_, _, rfl, ⟨hz, rfl⟩, PstO.here h sr (.int _)⟩
    · simp only [if_neg hz] at e; cases e
  · rename_i zs
    obtain ⟨x, rfl, r1⟩ := ra.one
    obtain ⟨q, vs, rfl, h1, h2⟩ := r1.tup_at
    exact call_len pins s σ H _ us Q I rs ⟨_, zs.length, rfl, .inr ⟨vs, h1, h2.length⟩, PstO.here h sr (.int _)⟩
  · rename_i n
    obtain ⟨x, rfl, r1⟩ := ra.one
    cases q : S.at_ n with
    | lst zs =>
      simp only [q] at h
      obtain ⟨vs, rfl, hn, h1, h2⟩ := r1.lst_at sr q
      exact call_len pins s σ H _ us Q I rs ⟨_, zs.length, rfl, .inl ⟨vs, .inl (.inl h1), h2.length⟩, PstO.here h sr (.int _)⟩
    | ro zs =>
      simp only [q] at h
      obtain ⟨vs, rfl, h1, h2⟩ := r1.read_at (xs := zs) sr (by unfold getR; rw [q])
      exact call_len pins s σ H _ us Q I rs ⟨_, zs.length, rfl, .inl ⟨vs, h1, h2.length⟩, PstO.here h sr (.int _)⟩
    | dic lk kvs =>
      simp only [q] at h
      cases r1 with
      | ref n hn =>
      obtain ⟨vs, h1, h2⟩ := dic_at sr hn q
      obtain ⟨u, rfl, ru⟩ := Vals.one rs
      cases ru
      refine d_len I h1 fun t s' I' => ⟨.int kvs.length, H, I', ⟨t, ?_⟩, PstO.here h sr (.int _)⟩
      rw [h2.length]
    | _ => simp only [q] at e; cases e
  · cases e
end
end Q

set_option linter.all false
set_option maxRecDepth 100000
set_option maxHeartbeats 400000
namespace Q
open PySem PySem.Spec PyProof.Rows L2

/-! ### calls by keywords alone -/
theorem PK.imp {X : Cx} {e : List Keyword} {t t' : TA} (h : PK X e t) (i : ∀ σ H Q, t' σ H Q → t σ H Q) : PK X e t' := ⟨fun pos pins s σ H Q I q => h.run pos pins s σ H Q I (i σ H Q q)⟩
def reord (perm : List Nat) (ws : List α) : List α := perm.filterMap (ws[·]?)
def mCallK (f : List Vl → M Vl) (perm : List Nat) (g : En → M (List Vl)) : En → M Vl := fun ρ => bnd (g ρ) fun vs => f (reord perm vs)

end Q

set_option linter.all false
set_option maxRecDepth 100000
set_option maxHeartbeats 400000
namespace Q
open PySem PySem.Spec PyProof.Rows L2

/-- the names' values at the entry -/
def startE (nN : Nat) (as : List Vl) : En := as.map some ++ List.replicate (nN - as.length) none
/-- a def's body as a function of values: nN names, np parameters -/
def runF (nN np : Nat) (body : MS) : List Vl → M Vl := fun as S => if as.length = np then (match body (startE nN as) S with
  | some (.rt v, _, S') => some (.ok v, S')
  | some (.nx, _, S') => some (.ok .non, S')
  | some (.ex c f v, _, S') => some (.exc c f v, S')
  | _ => none) else none
/-- what a body's derivation may use -/
structure FCx (g : Bool) (X : Cx) (W : WX) (k : Nat) : Prop where
  gd : g = true → X.A.guards = some []
  hr : Room k X.A
  tk : Takes X W
  po : PassesOwn (model X.prog X.w) X.A X.env X.xe
  calm : X.calm = true
  nd : X.N.Nodup
theorem FCx.u1 {X : Cx} {W : WX} {k : Nat} {g : Bool} (c : FCx g X W k) : X.A.units + 1 < cLine := by have := c.hr.un; omega
theorem FCx.u64 {X : Cx} {W : WX} {k : Nat} {g : Bool} (c : FCx g X W k) : X.A.units + 190 < cLine := by have := c.hr.un; omega
theorem FCx.u65 {X : Cx} {W : WX} {k : Nat} {g : Bool} (c : FCx g X W k) : X.A.units + 65 < cLine := by have := c.hr.un; omega
section
variable {P : Program} {w : World} {K : PySem.W.Frag} {mg : Str → Option Value} {T : Tb} {base : Heap}
abbrev fX (P : Program) (w : World) (K : PySem.W.Frag) (mg : Str → Option Value) (base : Heap) (N : List Str) (qual : Str) (st : Stmt) (f : Addr) (cdv : Value) (A : Around) (outer : List Env) (s : Shared) (H : Hp) (E : XK) : Cx :=
  cxOf (L2.CX P w) P w K mg base N qual (defScope st) f cdv A outer s H E
theorem startE_rel {H : Hp} {μ : Nat → Addr} {M : Nat} {N : List Str} {as : List Vl} {vs : List V} (r : RpAll K mg H μ M as vs) : ERel K mg H μ M (startE N.length as) (L2.start N vs) := by
  have hl := r.length
  refine ⟨by unfold startE L2.start; simp [hl], fun i v q => ?_⟩
  unfold startE at q
  by_cases hi : i < as.length
  · rw [List.getElem?_append_left (by simpa using hi), List.getElem?_map] at q
    cases e : as[i]? with
    | none => rw [e] at q; cases q
    | some a =>
      rw [e] at q; cases q
      obtain ⟨x, h1, h2⟩ := r.get e
      refine ⟨x, ?_, h2⟩
      unfold L2.start
      rw [List.getElem?_append_left (by rw [List.length_map, ← hl]; exact hi), List.getElem?_map, h1]
      rfl
  · rw [List.getElem?_append_right (by simpa using hi), List.getElem?_replicate] at q
    split at q <;> cases q
/-- a def of the program: its object, its code object, its defaults -/
structure FD (K : PySem.W.Frag) (x : Str) (st : Stmt) (f : Addr) (fd : FuncData) (cdv : Value) : Prop where
  ex : ∃ (oc : Value) (od : Option Addr) (dV kV doc pm : Value) (an : Option Addr) (ct : Value) (osl : Array (Option Value)),
    fd = PySem.W.fnOf x x (defArgs st) (defBody st) (defScope st) dV kV doc pm an cdv ct ∧ K.lookup f = some ⟨oc, od, .func fd, osl⟩ ∧ PySem.W.codeIn K cdv x = true
  kp : PySem.W.keepIn K (.ref f) = true
theorem fn_ok {g : Bool} {x : Str} {st : Stmt} {f : Addr} {fd : FuncData} {cdv : Value} {N ps : List Str} {k : Nat} {body : MS} (F : FD K x st f fd cdv) (Sc : FnScope N ps (defScope st))
    (hb : ∀ (A : Around) (outer : List Env) (s : Shared) (H : Hp) (E : XK), FCx g (fX P w K mg base N x st f cdv A outer s H E) (fun cls d _ H' => E cls d H') k → SSs (fX P w K mg base N x st f cdv A outer s H E) T (fun cls d _ H' => E cls d H') (defBody st) body) :
    FnQ g P w K mg base (k + 1) f fd ps (spF K mg T ps.length (runF N.length ps.length body)) := by
  obtain ⟨oc, od, dV, kV, doc, pm, an, ct, osl, rfl, lk, hcd⟩ := F.ex
  refine ⟨fun vs H Q E h => h.1, fun A outer s H args us vs Q E hr hgd e0 hbi r h => ?_⟩
  obtain ⟨hl, μ, S, as, sr, ra, q⟩ := h
  refine LamX.run_ofS lk hcd Sc hr e0 hbi r hl fun hr' => ?_
  have fc : FCx g (fX P w K mg base N x st f cdv A outer s H E) (fun cls d _ H' => E cls d H') k := ⟨hgd, hr', takes_of rfl rfl rfl rfl, passes_of rfl, rfl, Sc.nd⟩
  refine ⟨_, hb A outer s H E fc, startE N.length as, μ, S, sr, startE_rel ra, ?_⟩
  unfold runF at q
  have hla : as.length = ps.length := by rw [ra.length]; exact hl
  rw [if_pos hla] at q
  cases e : body (startE N.length as) S with
  | none => rw [e] at q; exact q
  | some p =>
    obtain ⟨fl, ρ', S'⟩ := p
    rw [e] at q
    cases fl with
    | nx => exact fun H' μ' σ' e' sr' er' => q H' μ' .non e' sr' .non
    | bk => exact q.elim
    | ct => exact q.elim
    | rt v => exact q
    | ex c g v => exact fun H' μ' σ' cls d e' sr' er' x => q H' μ' cls d e' sr' x
/-- a def that is called with all its arguments -/
theorem cal_of {g : Bool} {x : Str} {f : Addr} {fd : FuncData} {ps : List Str} {k : Nat} {h : List Vl → M Vl} (hk : PySem.W.keepIn K (.ref f) = true) (hm : mg x = some (.ref f)) (hb : L2.Binds K fd ps [])
    (ok : FnQ g P w K mg base k f fd ps (spF K mg T ps.length h)) (hl : ∀ as S, as.length ≠ ps.length → h as S = none) : CalS g P w K mg T base k x [] h :=
  ⟨f, fd, ps, [], [], hm, hk, ok, hl, hb, .nil, fun _ _ _ => .nil⟩
theorem runF_len {nN np : Nat} {body : MS} : ∀ as S, as.length ≠ np → runF nN np body as S = none := fun as S h => by unfold runF; rw [if_neg h]
/-- at depth nought nothing is promised -/
theorem fn_zero {g : Bool} {k : Nat} {f : Addr} {fd : FuncData} {ps : List Str} {n : Nat} : FnQ g P w K mg base k f fd ps (spF K mg T n fun _ _ => none) :=
  ⟨fun _ _ _ _ h => (by obtain ⟨_, _, _, _, _, _, q⟩ := h; exact q.elim), fun _ _ _ _ _ _ _ _ _ _ _ _ _ _ h => (by obtain ⟨_, _, _, _, _, _, q⟩ := h; exact q.elim)⟩
/-- a def that leans on less -/
theorem FnQ.low {g : Bool} {k : Nat} {f : Addr} {fd : FuncData} {ps : List Str} {sp : Sp} (h : FnQ false P w K mg base k f fd ps sp) : FnQ g P w K mg base k f fd ps sp :=
  ⟨h.len, fun A outer s H args us vs Q E hr _ => h.run A outer s H args us vs Q E hr (fun z => by cases z)⟩
theorem FnQ.mono {g : Bool} {j k : Nat} {f : Addr} {fd : FuncData} {ps : List Str} {sp : Sp} (h : FnQ g P w K mg base j f fd ps sp) (e : j ≤ k) : FnQ g P w K mg base k f fd ps sp :=
  ⟨h.len, fun A outer s H args us vs Q E hr => h.run A outer s H args us vs Q E (hr.mono e)⟩
end

/-! ### raise -/
/-- an own exception class without an own __init__ -/
structure ExcS (K : PySem.W.Frag) (mg : Str → Option Value) (c : Str) (bmB : List Value) (newId : String) : Prop where
  ex : ∃ C, mg c = some (.ref C) ∧ PySem.W.excIn K C bmB newId = true ∧ PySem.W.keepIn K (.ref C) = true ∧ PySem.W.subIn K (.ref C) (.type "BaseException") = some true ∧ PySem.W.typeIn K (.ref C) = some (.type "type")
def sRaise (c : Str) : MS := fun ρ S => some (.ex c "" .non, ρ, S)
end Q

set_option linter.all false
set_option maxRecDepth 100000
set_option maxHeartbeats 800000
namespace Q
open PySem PySem.Spec PyProof.Rows L2

/-! ### an exception that is held on to -/

end Q

set_option linter.all false
set_option maxRecDepth 100000
set_option maxHeartbeats 4000000
namespace Q
open PySem PySem.Spec PySem.Calls PyProof.Rows PySem.W
/-! ### isinstance of an exception that has its own dict -/
section
variable {prog : Program} {w : World} {A : Around} {E : Value → Shared → Prop} {s : Shared} {K : Frag} {x D : Addr} {ox : Obj} {od : Option Obj}
theorem findObj_dataD {C : Addr} {name : Str} {a g : Value} (hc : (clsIn K C).isSome = true) (ha : findIn K (.ref C) name = some (some a)) (hg : specialIn K a "__get__" = some (some g)) (ht : takesIn K a = some true) : findObj K C od name = some (.bind g a) := by
  cases od with
  | none => exact findObj_dataN hc ha hg ht
  | some o => exact findObj_data hc ha hg ht
theorem kin_classD {Q : Option Value → Shared → Prop} (hga : findIn K (.ref D) "__getattribute__" = some (some (.builtin "BaseException.__getattribute__"))) (hgt : findIn K (.ref D) "__getattr__" = some none) (hsub : subIn K (.ref D) (.type "BaseException") = some true)
    (hdct : hasDictIn K D = true) (ha : findIn K (.ref D) "__class__" = some (some (.builtin "object.__class__")))
    (hn : specialIn K (.builtin "object.__class__") "__get__" = some (some (.builtin "getset_descriptor.__get__"))) (htk : takesIn K (.builtin "object.__class__") = some true) (hm : mroIn K D (.type "object") = some true)
    (X : K.In s.heap) (I : InstAt s.heap x ox D od) (h : Q (some (.ref D)) { s with toks := s.toks + 1 }) : wpAny (model prog w) A (getAttr? (.ref x) "__class__") Q E s := by
  have hf : findObj K D od "__class__" = some (.bind (.builtin "getset_descriptor.__get__") (.builtin "object.__class__")) := findObj_dataD (by obtain ⟨cd, hc, _⟩ := any_some hdct; rw [hc]; rfl) ha hn htk
  obtain ⟨hp, g, d, t, os⟩ := s
  have L0 := I.type (M := model prog w)
  have L1 := looks_findIn (M := model prog w) X hga
  have L2 := looks_findIn (M := model prog w) X hgt
  have L3 := looks_find (M := model prog w) X I hf
  have sub : Looks (model prog w) hp (isInstance (.ref x) (.type "BaseException")) true := L0.andThen (looks_subIn X hsub)
  have hx0 : (false && onTheHeap (Value.builtin "BaseException.__getattribute__")) = false := rfl
  have hx2 : (Value.builtin "BaseException.__getattribute__" == Value.builtin "object.__getattribute__") = false := by decide +kernel
  have hx1 : (onTheHeap (Value.ref D) && Value.builtin "BaseException.__getattribute__" == Value.builtin "object.__getattribute__") = false := by rw [hx2]; rfl
  unfold getAttr? getAttrBy? getAttrBy
  refine wpAny_bind (wpAny_mkText (wpAny_bind (wpAny_attempt (wpAny_holding (wpAny_bind (L0.at (wpAny_bind (L1.at ?_))))))))
  show wpAny _ _ (if (onTheHeap (Value.ref D) && Value.builtin "BaseException.__getattribute__" == Value.builtin "object.__getattribute__") = true then _ else _) _ _ _
  rw [hx1, if_neg Bool.false_ne_true]
  unfold getAttrByItsOwn hookBefore
  refine wpAny_bind ?_
  rw [if_pos (show onTheHeap (Value.ref D) = true from rfl)]
  refine L2.at ?_
  refine wpAny_bind (wpAny_attempt (wpAny_holding ?_))
  unfold callGetattribute
  rw [hx0, if_neg Bool.false_ne_true]
  unfold boundAndCalled
  rw [PySem.F.excAttr_ValueError.ga.bind (.ref x)]
  refine wpAny_bind (wpAny_pure ?_)
  show wpAny _ _ (call (.builtin "BaseException.__getattribute__") [.ref x, .str "__class__" t]) _ _ _
  refine wpAny_call (codeAny_call_builtin PySem.F.excAttr_ValueError.ga.plain PySem.F.entry_bexc_ga ?_)
  refine @check_slot (model prog w) _ _ ⟨hp, g, d, t + 1, os⟩ "BaseException.__getattribute__" "BaseException" "__getattribute__" (.ref x) [.str "__class__" t] [] _ (by decide +kernel) (by decide +kernel) sub (PySem.F.args_bexc_ga (.ref x) (.str "__class__" t)) ?_
  unfold Builtin.«object.__getattribute__»
  refine wpAny_bind (wpAny_of_eq (a := ((Value.ref x : Value), [Value.str "__class__" t])) (by first | rfl | (simp only [slotArgs]; rfl)) ?_)
  refine wpAny_bind (wpAny_pure (wpAny_bind (L0.at (wpAny_bind (L3.at ?_)))))
  show wpAny _ _ (holding [Value.builtin "object.__class__"] (call (.builtin "getset_descriptor.__get__") [.builtin "object.__class__", .ref x, .ref D]) >>= PySem.ret) _ _ _
  refine wpAny_bind (wpAny_holding (wpAny_call (class_get (s := ⟨hp, g, d, t + 1, os⟩) (ox := ox) (od := od) X I hm ?_)))
  refine wpAny_pure ?_
  show wpAny _ _ (handedOut (.ref D)) _ _ _
  rw [handedOut_of (v := .ref D) rfl]
  first
    | exact wpAny_pure (wpAny_pure h)
    | exact wpAny_pure h
    | exact wpAny_pure (wpAny_bind (wpAny_pure (wpAny_pure h)))
theorem kitx_excD (hga : findIn K (.ref D) "__getattribute__" = some (some (.builtin "BaseException.__getattribute__"))) (hgt : findIn K (.ref D) "__getattr__" = some none) (hsub : subIn K (.ref D) (.type "BaseException") = some true) (hdct : hasDictIn K D = true) (ha : findIn K (.ref D) "__class__" = some (some (.builtin "object.__class__")))
    (hn : specialIn K (.builtin "object.__class__") "__get__" = some (some (.builtin "getset_descriptor.__get__"))) (htk : takesIn K (.builtin "object.__class__") = some true) (hm : mroIn K D (.type "object") = some true) :
    KitX K (.ref x) (.ref D) (fun h => InstAt h x ox D od) where
  ty := fun _ _ _ I => I.type
  it := fun _ _ X _ => by
    obtain ⟨cdD, hcD, _⟩ := any_some hdct
    unfold clsIn at hcD
    split at hcD
    · rename_i c' d' cd' sl' ho
      intro A' Q' E' s' k q
      unfold isType loadHead
      exact wpAny_bind (wpAny_loadPart (k _ _ (X _ _ ho)) (wpAny_pure q))
    · cases hcD
  ne := fun h tp dd its n sl X htp => by
    obtain ⟨cdD, hcD, _⟩ := any_some hdct
    refine Bool.eq_false_iff.mpr fun q => ?_
    have e : D = tp := Value.ref.inj (beq_iff_eq.mp q)
    subst e
    unfold clsIn at hcD
    split at hcD
    · rename_i c' d' cd' sl' ho
      have z := (X _ _ ho).symm.trans htp
      cases z
    · cases hcD
  ca := fun X I k => kin_classD hga hgt hsub hdct ha hn htk hm X I k
end
end Q

set_option linter.all false
set_option maxRecDepth 100000
set_option maxHeartbeats 800000
namespace Q
open PySem PySem.Spec PyProof.Rows L2

def mCaught (cs : List Str) (f : En → M Vl) : En → M Vl := fun ρ S => match f ρ S with
  | some (.ok _, S') => some (.ok .non, S')
  | some (.exc c g v, S') => if c ∈ cs then (match v with
    | .non => if g = "" then some (.ok (.exc c "" .non), S') else none
    | _ => none) else none
  | none => none
/-- what the making of lambdas asks of the context -/
structure Maker (X : Cx) (T : Tb) : Prop where
  ex : ∃ c P : Addr, LamX.TabB X.base X.mg c P ∧ X.env.code = .ref c ∧ (P, X.env.qual ++ "<lambda>") ∈ T ∧ ∀ p ∈ T, p.1 = P → p.2 = X.env.qual ++ "<lambda>"

/-! ### isinstance with the own classes -/
def bIsE (sub : List (Str × Str)) (ok : List Str) : List Vl → MO Vl := fun as S => match as with
  | [.exc c _ _, .gl d] => if c ∈ ok ∧ d ∈ ok then some (.bl (decide ((c, d) ∈ sub)), S) else none
  | [v, .gl d] => (match tyN S v with | some _ => if d ∈ ok then some (.bl false, S) else none | none => none)
  | as => bIsi as S
theorem bIsE_eq {sub : List (Str × Str)} {ok : List Str} {as : List Vl} {S : Sto} {p : Vl × Sto} (h : bIsE sub ok as S = some p) :
    (∃ c g v d, as = [.exc c g v, .gl d] ∧ c ∈ ok ∧ d ∈ ok ∧ p = (.bl (decide ((c, d) ∈ sub)), S)) ∨ (∃ v d a, as = [v, .gl d] ∧ tyN S v = some a ∧ d ∈ ok ∧ p = (.bl false, S)) ∨ bIsi as S = some p := by
  unfold bIsE at h
  split at h
  · rename_i c g v d
    by_cases hok : c ∈ ok ∧ d ∈ ok
    · rw [if_pos hok] at h; cases h; exact .inl ⟨c, g, v, d, rfl, hok.1, hok.2, rfl⟩
    · rw [if_neg hok] at h; cases h
  · rename_i v d _
    cases ht : tyN S v with
    | none => rw [ht] at h; cases h
    | some a =>
      rw [ht] at h
      simp only at h
      by_cases hok : d ∈ ok
      · rw [if_pos hok] at h; cases h; exact .inr (.inl ⟨v, d, a, rfl, ht, hok, rfl⟩)
      · rw [if_neg hok] at h; cases h
  · exact .inr (.inr h)
theorem rp_exc {K : PySem.W.Frag} {mg : Str → Option Value} {H : Hp} {μ : Nat → Addr} {N : Nat} {c g : Str} {v : Vl} {x : V} (r : Rp K mg H μ N (.exc c g v) x) :
    ∃ (a C0 : Addr) (dd : Option Addr), x = V.ref a ∧ mg c = some (.ref C0) ∧ H a = some (excO a (.ref C0) dd) ∧ ∀ d0, dd = some d0 → ∃ fs, H d0 = some (exd d0 fs) := by
  cases r with
  | @exc c a C0 hC hH => exact ⟨_, C0, none, rfl, hC, hH, fun d0 z => by cases z⟩
  | @excF c f a C0 d1 v w h0 hC hH hd r => exact ⟨_, C0, some d1, rfl, hC, hH, fun d0 z => by cases z; exact ⟨_, hd⟩⟩
structure ExcCs (K : PySem.W.Frag) (mg : Str → Option Value) (sub : List (Str × Str)) (ok : List Str) : Prop where
  c : ∀ c ∈ ok, ∀ C, mg c = some (.ref C) → ExcC K C
  s : ∀ c ∈ ok, ∀ d ∈ ok, ∀ C D, mg c = some (.ref C) → mg d = some (.ref D) → PySem.W.kitOne K (.ref C) (.ref D) = some (decide ((c, d) ∈ sub))
  t : ∀ d ∈ ok, ∀ D, mg d = some (.ref D) → ∀ a ∈ tyNs, PySem.W.kitOne K (.type a) (.ref D) = some false
section
variable {X : Cx} {T : Tb} {sub : List (Str × Str)} {ok : List Str}
theorem cs_isE (C : ExcCs X.K X.mg sub ok) : CaS X T (.builtin "isinstance") (bIsE sub ok) := by
  intro pins s σ H xs us Q I rs h
  have h0 := h
  obtain ⟨μ, S, as, sr, ra, h⟩ := h
  obtain ⟨p, e⟩ := h.some_
  rcases bIsE_eq e with ⟨c, g, v, d, rfl, hc, hd, rfl⟩ | ⟨v, d, a, rfl, ht, hok, rfl⟩ | e2
  · rw [e] at h
    cases ra with
    | cons r1 r2 =>
      cases r2 with
      | cons r2 r3 =>
        cases r3
        obtain ⟨a, C0, dd, ex, hC, hH, hod⟩ := rp_exc r1
        subst ex
        cases r2 with
        | @gl d D hD =>
        obtain ⟨u, w', rfl, ru, rw'⟩ := vals2 rs
        cases rw'
        obtain rfl : u = Value.ref a := ru
        obtain ⟨⟨oe, vs, he, hz, hdd⟩, _, _⟩ := I.hok a _ hH
        obtain ⟨od, J⟩ : ∃ od, PySem.W.InstAt s.heap a oe C0 od := by
          obtain ⟨oc, od, oda, osl⟩ := oe
          obtain ⟨h1, h2⟩ := hz
          dsimp only at h1 h2 hdd
          subst h1 h2 hdd
          cases od with
          | none => exact ⟨none, he, rfl, rfl, trivial⟩
          | some d0 =>
            obtain ⟨fs, hfs⟩ := hod d0 rfl
            obtain ⟨mA, hns, _⟩ := exd_at I.hok hfs
            obtain ⟨o, _, _, ho, _⟩ := hns
            exact ⟨some o, he, rfl, rfl, ho⟩
        have EC := C.c c hc C0 hC
        exact PySem.W.kia_one (kitx_excD EC.hg EC.hk EC.hs EC.hd EC.ha EC.hn EC.ht EC.hm) I.kIn J (C.s c hc d hd C0 D hC hD) (fun z => nomatch z) fun tk => ⟨.bl _, H, I.kept (t' := tk) fun _ _ z => z, rfl, PstO.here h sr (.bl _)⟩
  · rw [e] at h
    cases ra with
    | cons r1 r2 =>
      cases r2 with
      | cons r2 r3 =>
        cases r3
        cases r2 with
        | @gl d D hD =>
        obtain ⟨ty, ha⟩ := tyN_at sr r1 ht
        exact call_isi pins s σ H _ us Q I rs ⟨_, _, _, _, _, rfl, .own D, ty, C.t d hok D hD a ha, PstO.here h sr (.bl _)⟩
  · rw [e, ← e2] at h
    exact cs_isi pins s σ H xs us Q I rs ⟨μ, S, _, sr, ra, h⟩
end
end Q

set_option linter.all false
set_option maxRecDepth 100000
set_option maxHeartbeats 800000
namespace Q
open PySem PySem.Spec PyProof.Rows L2

def oNone : En → M (Option Int) := fun _ => ret none
def oSome (f : En → M Vl) : En → M (Option Int) := fun ρ => bnd (f ρ) fun v => match v with
  | .int i => ret (some i)
  | _ => fail
/-- the items from lo up to hi -/
def cutL {α : Type} (xs : List α) (lo hi : Option Int) : List α := (xs.drop (HT.sIx xs.length 0 lo)).take (HT.sIx xs.length xs.length hi - HT.sIx xs.length 0 lo)
def bSl (v : Vl) (lo hi : Option Int) : MO Vl := fun S => match v with
  | .tup xs => some (.tup (cutL xs lo hi), S)
  | .str z => if z.length ≤ sizeLine then some (.str (cutS z lo hi), S) else none
  | .ref n => match getR S n with
    | some xs => some (.ref S.n, S.push (.lst (cutL xs lo hi)))
    | none => none
  | _ => none
def mSl (f : En → M Vl) (fl fh : En → M (Option Int)) : En → M Vl := fun ρ => bnd (f ρ) fun v => bnd (fl ρ) fun lo => bnd (fh ρ) fun hi => lift (bSl v lo hi)

/-! ### {k: v, ..} -/
def mPairs : List ((En → M Vl) × (En → M Vl)) → En → M (List (Vl × Vl))
  | [], _ => ret []
  | (fk, fv) :: r, ρ => bnd (fk ρ) fun k => bnd (fv ρ) fun v => bnd (mPairs r ρ) fun ps => ret ((k, v) :: ps)
def mergeD (kvs more : List (Vl × Vl)) : List (Vl × Vl) := more.foldl (fun acc kv => dPut acc kv.1 kv.2) kvs
def mDisp (ms : List ((En → M Vl) × (En → M Vl))) : En → M Vl := fun ρ S => bnd (mPairs ms ρ) (fun ps => lift fun S2 => match S2.at_ S.n with
  | .dic false [] => if ps.length ≤ 15 ∧ (ps.all fun p => (keyOf p.1).isSome) = true then some (.ref S.n, S2.set S.n (.dic false (mergeD [] ps))) else none
  | _ => none) (S.push (.dic false []))
section
variable {K : PySem.W.Frag} {mg : Str → Option Value} {T : Tb} {H : Hp} {μ : Nat → Addr} {S : Sto} {N : Nat}
def RpP (K : PySem.W.Frag) (mg : Str → Option Value) : Hp → (Nat → Addr) → Nat → List (Vl × Vl) → List (V × V) → Prop := fun H μ N xs vs => RpAll K mg H μ N (xs.map (·.1)) (vs.map (·.1)) ∧ RpAll K mg H μ N (xs.map (·.2)) (vs.map (·.2))
theorem RpP.ext {H' : Hp} {μ' : Nat → Addr} {N' : Nat} (e : Ext H μ N H' μ' N') {xs : List (Vl × Vl)} {vs : List (V × V)} (h : RpP K mg H μ N xs vs) : RpP K mg H' μ' N' xs vs := ⟨h.1.ext e, h.2.ext e⟩
theorem RpP.keys : ∀ {xs : List (Vl × Vl)} {vs : List (V × V)}, RpP K mg H μ N xs vs → (xs.all fun p => (keyOf p.1).isSome) = true → ∃ kvs : List (Key × V), vs = kvs.map (fun kv => (kV kv.1, kv.2)) ∧ RpK K mg H μ N xs kvs
  | [], [], _, _ => ⟨[], rfl, .nil⟩
  | [], _ :: _, h, _ => by cases h.1
  | _ :: _, [], h, _ => by cases h.1
  | (k, x) :: xs, (a, b) :: vs, h, hk => by
    obtain ⟨h1, h2⟩ := h
    cases h1 with
    | cons r1 t1 =>
    cases h2 with
    | cons r2 t2 =>
    rw [List.all_cons, Bool.and_eq_true] at hk
    obtain ⟨kvs, e, rk⟩ := RpP.keys ⟨t1, t2⟩ hk.2
    cases ek : keyOf k with
    | none => rw [ek] at hk; cases hk.1
    | some κ =>
      have e1 : a = kV κ := by
        cases k with
        | int i => cases ek; cases r1; rfl
        | str i => cases ek; cases r1; rfl
        | _ => cases ek
      exact ⟨(κ, b) :: kvs, by rw [e, e1]; rfl, .cons ek r2 rk⟩
theorem RpK.merge {xs : List (Vl × Vl)} {vs : List (Key × V)} (h : RpK K mg H μ N xs vs) : ∀ {ys : List (Vl × Vl)} {us : List (Key × V)}, RpK K mg H μ N ys us → RpK K mg H μ N (mergeD ys xs) (mergeK us vs) := by
  induction h with
  | nil => intro ys us h2; exact h2
  | cons hk rv _ ih => intro ys us h2; exact ih (RpK.put hk rv h2)
end
section
variable {X : Cx} {T : Tb} {W : WX} {pos : Pos} {keys : List (Option Expr)} {values : List Expr}
def tPs (K : PySem.W.Frag) (mg : Str → Option Value) (T : Tb) (W : WX) (ms : List ((En → M Vl) × (En → M Vl))) : List (TE × TE) := ms.map fun m => (tOf K mg T W m.1, tOf K mg T W m.2)
theorem tPairs_of : ∀ (ms : List ((En → M Vl) × (En → M Vl))) {σ : L2.St} {ρ : En} {H : Hp} {μ : Nat → Addr} {S : Sto} {Q : List (V × V) → Hp → Prop}, SRel X.K X.mg T H μ S → ERel X.K X.mg H μ S.n ρ σ →
    Pst X.K X.mg T (fun cls d H' => W cls d σ H') (RpP X.K X.mg) H μ S.n Q (mPairs ms ρ S) → tPairs (tPs X.K X.mg T W ms) σ H Q
  | [], _, _, _, _, _, _, sr, er, h => Pst.here (rel := RpP X.K X.mg) h sr ⟨.nil, .nil⟩
  | (fk, fv) :: r, σ, ρ, H, μ, S, Q, sr, er, h => by
    refine ⟨ρ, μ, S, sr, er, Pst.bnd_ (rel := rl X.K X.mg) h fun k S1 H1 μ1 x e1 sr1 rx h1 => ?_⟩
    refine ⟨ρ, μ1, S1, sr1, er.ext e1, Pst.bnd_ (rel := rl X.K X.mg) h1 fun v S2 H2 μ2 y e2 sr2 ry h2 => ?_⟩
    refine tPairs_of r sr2 ((er.ext e1).ext e2) (Pst.bnd_ (rel := RpP X.K X.mg) h2 fun ps S3 H3 μ3 zs e3 sr3 rz h3 => ?_)
    exact Pst.here (rel := RpP X.K X.mg) h3 sr3 ⟨.cons ((rx.ext e2).ext e3) rz.1, .cons (ry.ext e3) rz.2⟩
abbrev SPs (X : Cx) (T : Tb) (W : WX) (pos : Pos) (keys : List (Option Expr)) (values : List Expr) (ms : List ((En → M Vl) × (En → M Vl))) : Prop := PPs X pos keys values (tPs X.K X.mg T W ms)
theorem sps_nil : SPs X T W pos [] [] [] := pps_nil
theorem sps_cons {k v : Expr} {fk fv : En → M Vl} {ms : List ((En → M Vl) × (En → M Vl))} (hk : SE X T W k fk) (hv : SE X T W v fv) (hr : SPs X T W pos keys values ms) : SPs X T W pos (some k :: keys) (v :: values) ((fk, fv) :: ms) := pps_cons hk hv hr
theorem se_disp {ms : List ((En → M Vl) × (En → M Vl))} (h : SPs X T W pos keys values ms) (hall : keys.all (·.isSome) = true := by rfl) (hl : keys.length = values.length := by rfl) (h0 : keys ≠ [] := by exact List.cons_ne_nil _ _) (h15 : keys.length ≤ 15 := by decide) :
    SE X T W (.Dict keys values pos) (mDisp ms) := by
  refine PE.imp (pe_disp h hall hl h0 h15) fun σ H Q h => ?_
  obtain ⟨ρ, μ, S, sr, er, h⟩ := h
  intro p hp
  have e1 := ext_new (o := .dK []) (μ := μ) hp S.n (S.n + 1) (Nat.le_succ _)
  have sr1 := sr.push (ob := .dic false []) hp ⟨[], upd_same, .nil⟩
  refine tPairs_of (S := S.push (.dic false [])) ms sr1 (er.ext e1) (Pst.bnd_ (rel := RpP X.K X.mg) (Pst.step h e1) fun ps S2 H2 μ2 zs e2 sr2 rz h2 => ?_)
  have h2 := h2.lift_
  cases e3 : S2.at_ S.n with
  | dic lk kvs =>
    rw [e3] at h2
    match lk, kvs, e3, h2 with
    | false, [], e3, h2 =>
      simp only at h2
      have hn : S.n < S2.n := Nat.lt_of_lt_of_le (Nat.lt_succ_self _) e2.le
      have ep : μ2 S.n = p := by rw [e2.mu S.n (Nat.lt_succ_self _)]; exact mu1_same
      have ob := sr2.at_ S.n hn
      rw [e3, ep] at ob
      obtain ⟨vs, hv, rk0⟩ := ob
      cases rk0
      by_cases hz : ps.length ≤ 15 ∧ (ps.all fun p => (keyOf p.1).isSome) = true
      · rw [if_pos hz] at h2
        obtain ⟨kvs, ek, rk⟩ := rz.keys hz.2
        refine ⟨hv, kvs, ek, ?_, ?_⟩
        · have h3 := rz.1.length
          rw [List.length_map, List.length_map, ek, List.length_map] at h3
          omega
        · have wr := sr2.write (k := S.n) (o := .dK (mergeK [] kvs)) (ob := .dic false (mergeD [] ps)) hn (by rw [e3]; rfl) rfl (by rw [ep, hv]; intro _ z; cases z) (by rw [ep, hv]; intro _ _ z; cases z) (by rw [ep, hv]; intro _ z; cases z) (by rw [ep, hv]; intro _ z; cases z) (fun ew => ⟨_, upd_same, (rk.merge .nil).ext ew⟩)
          rw [ep] at wr
          have rr : Rp X.K X.mg (upd H2 p (.dK (mergeK [] kvs))) μ2 S2.n (.ref S.n) (.ref p) := by
            have := Rp.ref (K := X.K) (mg := X.mg) (H := upd H2 p (.dK (mergeK [] kvs))) (μ := μ2) (N := S2.n) S.n hn
            rw [ep] at this; exact this
          exact h2 _ μ2 (.ref p) wr.2 wr.1 rr
      · rw [if_neg hz] at h2; exact h2.elim
    | true, _, _, h2 => exact h2.elim
    | false, _ :: _, _, h2 => exact h2.elim
  | _ => rw [e3] at h2; exact h2.elim
end

end Q

set_option linter.all false
set_option maxRecDepth 100000
set_option maxHeartbeats 800000
namespace Q
open PySem PySem.Spec PyProof.Rows L2

/-! ### o[::-1] -/
def revS (z : Str) : Str := ⟨(((List.range z.length).map fun k => z.length - 1 - k).filterMap (z.cps[·]?)).toArray⟩
def bRev (v : Vl) : MO Vl := fun S => match v with
  | .tup xs => some (.tup xs.reverse, S)
  | .str z => if z.length ≤ sizeLine then some (.str (revS z), S) else none
  | .ref n => match getR S n with
    | some xs => some (.ref S.n, S.push (.lst xs.reverse))
    | none => none
  | _ => none
def mRev (f : En → M Vl) : En → M Vl := fun ρ => bnd (f ρ) fun v => lift (bRev v)

end Q

set_option linter.all false
set_option maxRecDepth 100000
set_option maxHeartbeats 800000
namespace Q
open PySem PySem.Spec PyProof.Rows L2

theorem FCx.calm_ {X : Cx} {W : WX} {k : Nat} {g : Bool} (c : FCx g X W k) : X.calm = true := c.calm
theorem FCx.nd_ {X : Cx} {W : WX} {k : Nat} {g : Bool} (c : FCx g X W k) : X.N.Nodup := c.nd
def mNeg (f : En → M Vl) : En → M Vl := fun ρ => bnd (f ρ) fun v => match v with
  | .int i => ret (.int (-i))
  | _ => fail
section
variable {X : Cx} {T : Tb} {W : WX} {pos : Pos}
theorem se_gl2 {x : Str} (hg : Gl X x) (hm : ∃ a, X.mg x = some (.ref a)) (hd : (x == ("__debug__" : Str)) = false := by decide) : SE X T W (.Name x pos) (mC (.gl x)) := by
  obtain ⟨a, hm⟩ := hm
  exact se_gl hg hm hd
end
/-- the name of the lambdas of a def x -/
def lamQ (x : Str) : Str := (envOfC x default 0 0 .none).qual ++ "<lambda>"
structure MkOf (base : Heap) (mg : Str → Option Value) (T : Tb) (x : Str) (cdv : Value) : Prop where
  ex : ∃ c P : Addr, cdv = .ref c ∧ LamX.TabB base mg c P ∧ (P, lamQ x) ∈ T ∧ ∀ p ∈ T, p.1 = P → p.2 = lamQ x
theorem MkOf.of {P : Program} {w : World} {K : PySem.W.Frag} {mg : Str → Option Value} {T : Tb} {base : Heap} {x : Str} {cdv : Value} (m : MkOf base mg T x cdv) {N : List Str} {st : Stmt} {f : Addr} (A : Around) (outer : List Env) (s : Shared) (H : Hp) (E : XK) :
    Maker (fX P w K mg base N x st f cdv A outer s H E) T := by
  obtain ⟨c, p, rfl, h1, h2, h3⟩ := m.ex
  exact ⟨c, p, h1, rfl, h2, h3⟩
end Q

set_option linter.all false
set_option maxRecDepth 100000
set_option maxHeartbeats 2000000
namespace Q
open PySem PySem.Spec PyProof.Rows L2

/-! ### the law is called: what is tracked then -/
/-- the script, where it is no part of K, and the empty tables -/
noncomputable def trk0 (tb : List Addr) (K : PySem.W.Frag) (a : Addr) (ob : Obj) (ns : List Int) : Hp := fun b =>
  open Classical in if b ∈ tb then some (.tbl #[]) else if b = a ∧ K.lookup a = none then some (.frz ob (.lst (ns.map V.int))) else none
section
variable {tb : List Addr} {K : PySem.W.Frag} {a : Addr} {ob : Obj} {ns : List Int}
theorem trk0_tab {b : Addr} (h : b ∈ tb) : trk0 tb K a ob ns b = some (.tbl #[]) := by unfold trk0; rw [if_pos h]
theorem trk0_scr (h : a ∉ tb) (hk : K.lookup a = none) : trk0 tb K a ob ns a = some (.frz ob (.lst (ns.map V.int))) := by unfold trk0; rw [if_neg h, if_pos ⟨rfl, hk⟩]
theorem trk0_else {b : Addr} (h : b ∉ tb) (h2 : ¬ (b = a ∧ K.lookup a = none)) : trk0 tb K a ob ns b = none := by unfold trk0; rw [if_neg h, if_neg h2]
theorem trk0_inv {b : Addr} {u : HO} (e : trk0 tb K a ob ns b = some u) : (b ∈ tb ∧ u = .tbl #[]) ∨ (b ∉ tb ∧ b = a ∧ K.lookup a = none ∧ u = .frz ob (.lst (ns.map V.int))) := by
  by_cases h : b ∈ tb
  · rw [trk0_tab h] at e; exact .inl ⟨h, (Option.some.inj e).symm⟩
  · by_cases h2 : b = a ∧ K.lookup a = none
    · obtain ⟨rfl, h3⟩ := h2
      rw [trk0_scr h h3] at e
      exact .inr ⟨h, rfl, h3, (Option.some.inj e).symm⟩
    · rw [trk0_else h h2] at e; cases e
end
/-- a list that is only read -/
abbrev RoV (K : PySem.W.Frag) (H : Hp) (a : Addr) (vs : List V) : Prop := (∃ o, H a = some (.frz o (.lst vs))) ∨ (∃ (o : Obj) (its : Array Value) (n : Nat), K.lookup a = some o ∧ o.cls = .type "list" ∧ o.dict = none ∧ o.data = .seq its n ∧ its.size ≤ sizeLine ∧ Vals vs its.toList)
/-- the law's call, where no text of a container is under way -/
theorem law_g {P : Program} {w : World} {K : PySem.W.Frag} {mg mb : Str → Option Value} {k : Nat} {fa a : Addr} {cs : List (Addr × Addr)} {fd : FuncData} {x : Str} {sp : Sp} {s₁ : Shared} {vs : List Value} {ns : List Int}
    (KX : K.In s₁.heap) (hns : s₁.heap.Ns mainGlobals mg) (hb : s₁.heap.Ns builtinsNs mb) (hbb : ∀ x : Str, x ≠ "__name__" → mb x = bootBuiltins x) (hlim : s₁.heap.NoLimit) (hg : s₁.gens = #[])
    (hT : ∀ p ∈ cs, s₁.heap.get? p.2 = some { cls := .none, data := .fields #[] }) (nT : ∀ p ∈ cs, K.lookup p.2 = none) (C : ∀ p ∈ cs, PySem.W.CodeHd s₁.heap p.1 p.2)
    (hbm : ∃ (bm : Addr) (ob : Obj), mg "__builtins__" = some (.ref bm) ∧ bm ≠ builtinsNs ∧ s₁.heap.get? bm = some ob ∧ ob.cls = .type "module" ∧ ob.dict = some builtinsNs ∧ ob.data = .plain)
    (ha : s₁.heap.get? a = some { cls := .type "list", data := .seq vs.toArray }) (hi : IntsAre vs ns) (hl : ns.length ≤ sizeLine) (hr : Room k callerA)
    (F : ∀ base : Heap, K.In base → base.Ns mainGlobals mg → (∀ p ∈ cs, LamX.TabB base mg p.1 p.2) → FnQ true P w K mg base k fa fd [x] sp) (hbind : ∀ (s : Shared) (u : Value), BindsTo s fd ⟨[u], []⟩ [(x, u)])
    (hsp : ∀ H : Hp, (∀ p ∈ cs, H p.2 = some (.tbl #[])) → RoV K H a (ns.map V.int) → sp [.ref a] H (fun v _ => v = .bl true) fun _ _ _ => False) :
    codeAny (model P w) callerA (.call (.ref fa) ⟨[.ref a], []⟩) (fun r s' => r = .ok (.ret (.bool true)) ∧ OldK s₁.heap s'.heap ∧ s'.os = s₁.os ∧ AllBare s'.gens) s₁ := by
  let ob : Obj := { cls := .type "list", data := .seq vs.toArray }
  let tb : List Addr := cs.map (·.2)
  let H : Hp := trk0 tb K a ob ns
  have rv := vals_ints hi
  have lenV := hi.length
  have tabAt : ∀ b ∈ tb, s₁.heap.get? b = some { cls := .none, data := .fields #[] } := fun b hb => by
    obtain ⟨p, hp, rfl⟩ := List.mem_map.mp hb
    exact hT p hp
  have aOut : a ∉ tb := fun z => by
    have q := tabAt a z
    rw [ha] at q
    exact nomatch (congrArg Obj.data (Option.some.inj q) : Data.seq vs.toArray _ = Data.fields #[])
  -- an object that is neither a list nor an empty table is not tracked
  have free_ : ∀ {b : Addr} {o : Obj}, s₁.heap.get? b = some o → (∀ z n, o.data ≠ .seq z n) → o.data ≠ .fields #[] → H b = none := fun {b o} e h1 h2 => by
    refine trk0_else (fun z => ?_) fun z => ?_
    · have q := tabAt b z
      rw [e] at q; cases q; exact h2 rfl
    · have q := ha
      rw [← z.1, e] at q; cases q; exact h1 _ _ rfl
  have dict_ : ∀ {b : Addr} {o : Obj} {es : Array DictEntry} {ep : Nat}, s₁.heap.get? b = some o → o.data = .dict es ep → H b = none := fun e d => free_ e (fun z n q => by rw [d] at q; cases q) fun q => by rw [d] at q; cases q
  have ns_ : ∀ {b : Addr} {m : Str → Option Value}, s₁.heap.Ns b m → (hidT s₁.heap H).Ns b m := fun {b m} ⟨o, es, ep, e, d, r⟩ => ⟨o, es, ep, hidT_get e (dict_ e d), d, r⟩
  have kin : K.In (hidT s₁.heap H) := fun b o e => hidT_get (KX b o e) (trk0_else (fun z => by
      obtain ⟨p, hp, rfl⟩ := List.mem_map.mp z
      rw [nT p hp] at e; cases e) fun z => by
      rw [z.1, z.2] at e; cases e)
  have md : L2.Mod K mg (hidT s₁.heap H) := ⟨kin, ns_ hns, ⟨mb, ns_ hb, hbb⟩, let ⟨mc, h1, h2⟩ := hlim; ⟨mc, ns_ h1, h2⟩⟩
  have tabB : ∀ p ∈ cs, LamX.TabB (hidT s₁.heap H) mg p.1 p.2 := fun p hp => by
    refine ⟨?_, ?_, fun z => ?_⟩
    · obtain ⟨o, us, f, tf, fl, tg, inF, tx, tt, e1, r1, r2, r3, rest⟩ := C p hp
      refine ⟨o, us, f, tf, fl, tg, inF, tx, tt, hidT_get e1 (free_ e1 (fun z n q => ?_) fun q => ?_), r1, r2, r3, rest⟩
      · rw [r2] at q; cases q
      · rw [r2] at q; cases q; simp at r3
    · obtain ⟨bm, o, b1, b2, b3, b4, b5, b6⟩ := hbm
      refine ⟨bm, o, b1, b2, fun q => ?_, fun q => ?_, hidT_get b3 (free_ b3 (fun z n q => ?_) fun q => ?_), b4, b5, b6⟩
      · obtain ⟨o2, es, ep, e, hd, _⟩ := hns
        rw [q, e] at b3; cases b3
        rw [hd] at b6; cases b6
      · rw [q, hT p hp] at b3; cases b3; cases b6
      · rw [b6] at q; cases q
      · rw [b6] at q; cases q
    · obtain ⟨o2, es, ep, e, hd, _⟩ := hns
      rw [z, hT p hp] at e; cases e; cases hd
  have hok : HOk P w H s₁.heap := fun b u e => by
    rcases trk0_inv e with ⟨h1, rfl⟩ | ⟨_, rfl, _, rfl⟩
    · exact tabAt b h1
    · exact ⟨ha, by rw [List.length_map]; exact hl, vs, _, rv, ha⟩
  have sq : RoV K H a (ns.map V.int) := by
    cases hk : K.lookup a with
    | none => exact .inl ⟨ob, trk0_scr aOut hk⟩
    | some o =>
      have e := KX a o hk
      rw [ha] at e; cases e
      exact .inr ⟨_, vs.toArray, _, hk, rfl, rfl, rfl, by rw [List.size_toArray, lenV]; exact hl, by simpa using rv⟩
  have tabs : ∀ p ∈ cs, H p.2 = some (.tbl #[]) := fun p hp => trk0_tab (List.mem_map.mpr ⟨p, hp, rfl⟩)
  have e0 : Env0 P w K mg (hidT s₁.heap H) callerA [] s₁ H := ⟨rfl, md, fun b o e => of_hidT e, Nat.le_of_eq (hidT_size _ _), trivial, fun b hb => absurd (show b ∈ ([] : List Addr) from hb) (by simp), hok, .of_eq hg⟩
  refine codeAny_mono ((F _ kin (ns_ hns) tabB).run callerA [] s₁ H ⟨[.ref a], []⟩ [.ref a] [.ref a] _ _ hr (fun _ => rfl) e0 (hbind s₁ (.ref a)) (.cons rfl .nil) (hsp H tabs sq)) fun r s' h => ?_
  match r, h with
  | .error e, h =>
    exact (CX_false h).elim
  | .ok .next, h => exact False.elim h
  | .ok .brk, h => exact False.elim h
  | .ok .cont, h => exact False.elim h
  | .ok (.ret u), h =>
    obtain ⟨v, H', os, bare, un, hok', ru, qv⟩ := h
    obtain rfl : v = .bl true := qv
    obtain rfl : u = Value.bool true := ru
    have stays : ∀ b o, b ∉ tb → s₁.heap.get? b = some o → s'.heap.get? b = some o := fun b o nb e => by
      cases q : H b with
      | none => exact un.keep b o e q (fun z => absurd (show b ∈ ([] : List Addr) from z) (by simp)) (by simp)
      | some u =>
        rcases trk0_inv q with ⟨h1, _⟩ | ⟨_, rfl, _, rfl⟩
        · exact absurd h1 nb
        · obtain ⟨e2, _⟩ := hok' b _ (un.frzs b ob _ q)
          rw [ha] at e; cases e
          exact e2
    have grown : ∀ p ∈ cs, ∃ more : Array Value, s'.heap.get? p.2 = some { cls := .none, data := .fields more } := fun p hp => by
      obtain ⟨more, z⟩ := un.tbls p.2 #[] (tabs p hp)
      exact ⟨_, hok' p.2 _ z⟩
    refine ⟨rfl, ⟨fun b o e => ?_, fun b o e => ?_⟩, os, bare⟩
    · by_cases hm : b ∈ tb
      · obtain ⟨p, hp, rfl⟩ := List.mem_map.mp hm
        obtain ⟨more, hm⟩ := grown p hp
        rw [hT p hp] at e; cases e
        exact .inr (.inl ⟨((C p hp).tab (hT p hp)).isCodeTable, rfl, #[], more, rfl, by rw [Array.empty_append]; exact hm⟩)
      · exact .inl (stays b o hm e)
    · by_cases hm : b ∈ tb
      · obtain ⟨p, hp, rfl⟩ := List.mem_map.mp hm
        obtain ⟨more, hm⟩ := grown p hp
        exact ⟨_, hm⟩
      · exact ⟨o, stays b o hm e⟩
where
  CX_false {P : Program} {w : World} {H : Hp} {s s' : Shared} {Q : VK} {e : Value} (h : CR (L2.CX P w) [] P w H s Q (fun _ _ _ => False) (.error e) s') : False := by
    obtain ⟨_, _, _, _, _, _, _, _, _, _, _, _, z⟩ := h
    exact z
/-! ### the law's row -/
def LawG (l : PySem.W.OpenLaw) (w : World) (K : PySem.W.Frag) (k n : Nat) (x : Str) (mg : Str → Option Value) (fa : Addr) (h : Heap) : Prop :=
  ∃ (fd : FuncData) (cs : List (Addr × Addr)) (sp : Sp), (∀ p ∈ cs, h.get? p.2 = some { cls := .none, data := .fields #[] }) ∧ (∀ p ∈ cs, K.lookup p.2 = none) ∧ (∀ p ∈ cs, PySem.W.CodeHd h p.1 p.2) ∧ (∀ (s : Shared) (u : Value), BindsTo s fd ⟨[u], []⟩ [(x, u)]) ∧
    (∀ (H : Hp) (a : Addr) (ns : List Int), ns.length ≤ n → (∀ z ∈ ns, Builtin.Int.intBits z ≤ 1048576) → (∀ p ∈ cs, H p.2 = some (.tbl #[])) → RoV K H a (ns.map V.int) → sp [.ref a] H (fun v _ => v = .bl true) fun _ _ _ => False) ∧
    ∀ base : Heap, K.In base → base.Ns mainGlobals mg → (∀ p ∈ cs, LamX.TabB base mg p.1 p.2) → FnQ true l.prog w K mg base k fa fd [x] sp
theorem walk_g {l : PySem.W.OpenLaw} {n k : Nat} {q : Program} {loose : List Str} {XP : (Str → Option Value) → Heap → Prop} {YP : World → Heap → Prop} {d : DefRec} {x : Str}
    (hn : l.most = some n) (hn2 : n ≤ sizeLine) (hdf : d.params.defaults = []) (hr : Room k callerA)
    (F : ∀ (w : World) (mg : Str → Option Value) (fa : Addr) (h : Heap), YP w h → h.Ns mainGlobals mg → mg d.name = some (.ref fa) → ∃ K : PySem.W.Frag, K.In h ∧ LawG l w K k n x mg fa h) :
    PySem.W.WalkO q loose XP YP l.row.toRowW d [] (fun f vs => PySem.call f vs) := by
  refine Att.attach_callB hn hdf fun w s₀ s₁ mg mb fa o pm cd doc a vs ns G Y ho hd hcd hmg hobj hints hlen hbits hg => ?_
  obtain ⟨K, KX, fd, cs, sp, hT, nT, C, hb, hsp, hF⟩ := F w mg fa _ Y G.T.g hmg
  exact law_g KX G.T.g G.T.b G.T.builtins G.T.nolimit hg hT nT C G.T.bmain hobj hints (Nat.le_trans hlen hn2) hr hF hb fun H hH hS => hsp H a ns hlen hbits hH hS
end Q

set_option linter.all false
set_option maxRecDepth 100000
set_option maxHeartbeats 1000000
namespace Q
open PySem PySem.Spec PyProof.Rows L2

/-! ### classes and constants, looked at -/
def bb {a b : Bool} (h : (a && b) = true) : a = true ∧ b = true := Bool.and_eq_true_iff.mp h
def excCB (K : PySem.W.Frag) (D : Addr) : Bool :=
  He.eqO (PySem.W.findIn K (.ref D) "__getattribute__") (some (some (.builtin "BaseException.__getattribute__"))) && (He.eqO (PySem.W.findIn K (.ref D) "__getattr__") (some none) && (decide (PySem.W.subIn K (.ref D) (.type "BaseException") = some true) && (PySem.W.hasDictIn K D &&
  (He.eqO (PySem.W.findIn K (.ref D) "__class__") (some (some (.builtin "object.__class__"))) && (He.eqO (PySem.W.specialIn K (.builtin "object.__class__") "__get__") (some (some (.builtin "getset_descriptor.__get__"))) && (decide (PySem.W.takesIn K (.builtin "object.__class__") = some true) && decide (PySem.W.mroIn K D (.type "object") = some true)))))))
theorem excCB_ok {K : PySem.W.Frag} {D : Addr} (h : excCB K D = true) : ExcC K D := by
  obtain ⟨h1, h⟩ := bb h
  obtain ⟨h2, h⟩ := bb h
  obtain ⟨h3, h⟩ := bb h
  obtain ⟨h4, h⟩ := bb h
  obtain ⟨h5, h⟩ := bb h
  obtain ⟨h6, h⟩ := bb h
  obtain ⟨h7, h8⟩ := bb h
  exact ⟨He.eqO_ok h1, He.eqO_ok h2, of_decide_eq_true h3, h4, He.eqO_ok h5, He.eqO_ok h6, of_decide_eq_true h7, of_decide_eq_true h8⟩
def exsB (K : PySem.W.Frag) (sub : List (Str × Str)) (ok : List Str) : Bool :=
  (ok.all fun c => excCB K (He.ga K c)) && ((ok.all fun c => ok.all fun d => decide (PySem.W.kitOne K (.ref (He.ga K c)) (.ref (He.ga K d)) = some (decide ((c, d) ∈ sub)))) && (ok.all fun d => tyNs.all fun a => decide (PySem.W.kitOne K (.type a) (.ref (He.ga K d)) = some false)))
def glosB (K : PySem.W.Frag) (xs : List Str) : Bool := xs.all fun x => (He.Fa.glo x).ok K
def freesB (K : PySem.W.Frag) (xs : List Str) : Bool := xs.all fun x => (He.Fa.free x).ok K
section
variable {K : PySem.W.Frag} {h : Heap} {mg : Str → Option Value}
theorem glo_at (X : K.In h) (G : h.Ns mainGlobals mg) {xs : List Str} (c : glosB K xs = true) {x : Str} (hx : x ∈ xs) : mg x = some (.ref (He.ga K x)) := He.glo_ok X G (List.all_eq_true.mp c x hx)
theorem free_at (X : K.In h) (G : h.Ns mainGlobals mg) {xs : List Str} (c : freesB K xs = true) {x : Str} (hx : x ∈ xs) : mg x = none := He.free_ok X G (List.all_eq_true.mp c x hx)
theorem exs_of (X : K.In h) (G : h.Ns mainGlobals mg) {sub : List (Str × Str)} {ok xs : List Str} (hg : glosB K xs = true) (hs : ∀ x ∈ ok, x ∈ xs) (c : exsB K sub ok = true) : ExcCs K mg sub ok := by
  obtain ⟨c1, c⟩ := bb c
  obtain ⟨c2, c3⟩ := bb c
  have at_ : ∀ c ∈ ok, ∀ C, mg c = some (.ref C) → C = He.ga K c := fun c hc C e => by
    rw [glo_at X G hg (hs c hc)] at e
    exact (Value.ref.inj (Option.some.inj e)).symm
  refine ⟨fun c hc C e => ?_, fun c hc d hd C D e e2 => ?_, fun d hd D e a ha => ?_⟩
  · rw [at_ c hc C e]; exact excCB_ok (List.all_eq_true.mp c1 c hc)
  · rw [at_ c hc C e, at_ d hd D e2]; exact of_decide_eq_true (List.all_eq_true.mp (List.all_eq_true.mp c2 c hc) d hd)
  · rw [at_ d hd D e]; exact of_decide_eq_true (List.all_eq_true.mp (List.all_eq_true.mp c3 d hd) a ha)
theorem excS_of (X : K.In h) (G : h.Ns mainGlobals mg) {xs : List Str} (hg : glosB K xs = true) {c : Str} (hc : c ∈ xs) (e : (He.Fa.exc c).ok K = true) : ExcS K mg c [.type "ValueError", .type "Exception", .type "BaseException", .type "object"] "ValueError.__new__" := by
  obtain ⟨h1, h2, h3, h4⟩ := He.exc_ok e
  exact ⟨_, glo_at X G hg hc, h1, h2, h3, h4⟩
/-! ### a def, out of the head's facts -/
/-- a def without defaults, as the head tells it -/
def dOf (x : Str) (st : Stmt) : He.DefD := ⟨(x, none), x, x, defArgs st, defBody st, defScope st, [], []⟩
structure FDx (K : PySem.W.Frag) (x : Str) (st : Stmt) (fd : FuncData) (cdv : Value) : Prop where
  ex : ∃ (oc : Value) (od : Option Addr) (kV doc pm : Value) (an : Option Addr) (ct : Value) (osl : Array (Option Value)),
    fd = PySem.W.fnOf x x (defArgs st) (defBody st) (defScope st) .none kV doc pm an cdv ct ∧ K.lookup (He.ga K x) = some ⟨oc, od, .func fd, osl⟩ ∧ PySem.W.codeIn K cdv x = true
  kp : PySem.W.keepIn K (.ref (He.ga K x)) = true
  code : ∃ c, cdv = .ref c ∧ He.codeOf K (x, none) = c
theorem FDx.tx {x : Str} {st : Stmt} {fd : FuncData} {cdv : Value} (F : FDx K x st fd cdv) : FD K x st (He.ga K x) fd cdv := by
  obtain ⟨oc, od, kV, doc, pm, an, ct, osl, e, lk, hcd⟩ := F.ex
  exact ⟨⟨oc, od, _, kV, doc, pm, an, ct, osl, e, lk, hcd⟩, F.kp⟩
theorem fdx_of {fa : List He.Fa} {fn : List He.DefD} (c : He.SaysD fa fn K) {x : Str} {st : Stmt} (hx : dOf x st ∈ fn) : ∃ fd cdv, FDx K x st fd cdv := by
  obtain ⟨fd, F⟩ := c.defs hx
  obtain ⟨oc, od, dV, kV, doc, pm, an, cdv, ct, osl, rfl, lk, hcd, hD, hK⟩ := F.ex
  obtain ⟨cc, rfl⟩ := He.codeIn_ref hcd
  have hD : dV = .none := by
    rcases hD with ⟨_, e⟩ | ⟨e, _⟩
    · exact e
    · exact absurd rfl e
  subst hD
  exact ⟨_, _, ⟨_, _, _, _, _, _, _, _, rfl, lk, hcd⟩, F.kp, cc, rfl, He.codeOf_eq (p := (x, none)) lk rfl⟩
end
section
variable {P : Program} {w : World} {K : PySem.W.Frag} {mg : Str → Option Value} {T : Tb} {base : Heap}
theorem FDx.cal {g : Bool} {x : Str} {st : Stmt} {fd : FuncData} {cdv : Value} {ps : List Str} {k : Nat} {h : List Vl → M Vl} (F : FDx K x st fd cdv) (hm : mg x = some (.ref (He.ga K x)))
    (hb : ∀ (kV doc pm : Value) (an : Option Addr) (ct : Value) (us : List Value), us.length = ps.length → bindArgs (PySem.W.fnOf x x (defArgs st) (defBody st) (defScope st) .none kV doc pm an cdv ct) ⟨us, []⟩ = pure (ps.zip us))
    (ok : FnQ g P w K mg base k (He.ga K x) fd ps (spF K mg T ps.length h)) (hl : ∀ as S, as.length ≠ ps.length → h as S = none) : CalS g P w K mg T base k x [] h := by
  obtain ⟨oc, od, kV, doc, pm, an, ct, osl, rfl, lk, hcd⟩ := F.ex
  exact cal_of F.kp hm (.all (hb kV doc pm an ct)) ok hl
end
/-- the law's store at the entry: the script alone -/
def S0 (ns : List Int) : Sto := ⟨1, fun _ => .ro (ns.map Vl.int)⟩
theorem ints_rp {K : PySem.W.Frag} {mg : Str → Option Value} {H : Hp} {μ : Nat → Addr} {N : Nat} : ∀ ns : List Int, RpAll K mg H μ N (ns.map Vl.int) (ns.map V.int)
  | [] => .nil
  | n :: ns => .cons (.int n) (ints_rp ns)
theorem law_sp {K : PySem.W.Frag} {mg : Str → Option Value} {T : Tb} {H : Hp} {a : Addr} {ns : List Int} {f : List Vl → M Vl} (ht : LamX.Tabs T H) (hs : RoV K H a (ns.map V.int)) (h : ∃ S', f [.ref 0] (S0 ns) = some (.ok (.bl true), S')) :
    spF K mg T 1 f [.ref a] H (fun v _ => v = .bl true) fun _ _ _ => False := by
  obtain ⟨S', h⟩ := h
  refine ⟨rfl, fun _ => a, S0 ns, [.ref 0], ⟨fun n hn => ⟨_, hs, ints_rp ns⟩, fun n m hn hm h1 h2 _ => Bool.noConfusion h1, ht⟩, .cons (.ref 0 (Nat.lt_succ_self 0)) .nil, ?_⟩
  rw [h]
  exact fun H' μ' x e sr r => by cases r; rfl
end Q

set_option linter.all false
set_option maxRecDepth 100000
set_option maxHeartbeats 400000
namespace Q
open PySem PySem.Spec PyProof.Rows L2

section
variable {X : Cx} {T : Tb} {W : WX} {pos : Pos}
/-! ### list(d), sorted(d), dict(pairs) -/
section
variable {K : PySem.W.Frag} {mg : Str → Option Value} {H : Hp} {μ : Nat → Addr} {N : Nat}
theorem key_rp {k : Vl} {κ : Key} (h : keyOf k = some κ) : Rp K mg H μ N k (kV κ) := by
  cases k with
  | int i => cases h; exact .int i
  | str s => cases h; exact .str s
  | _ => cases h
theorem RpK.keys {kvs : List (Vl × Vl)} {vs : List (Key × V)} (h : RpK K mg H μ N kvs vs) : RpAll K mg H μ N (kvs.map (·.1)) (vs.map fun kv => kV kv.1) := by
  induction h with
  | nil => exact .nil
  | cons k _ _ ih => exact .cons (key_rp k) ih
end
end

/-! ### a dict that is walked -/

structure FDd (K : PySem.W.Frag) (x : Str) (st : Stmt) (dv : List He.Dv) (fd : FuncData) (cdv : Value) : Prop where
  F : FunD K x x (defArgs st) (defBody st) (defScope st) (dv.map (He.Dv.v K)) [] (He.ga K x) fd
  tx : FD K x st (He.ga K x) fd cdv
section
variable {P : Program} {w : World} {K : PySem.W.Frag} {mg : Str → Option Value} {T : Tb} {base : Heap}
theorem FDd.cal {g : Bool} {x : Str} {st : Stmt} {dv : List He.Dv} {fd : FuncData} {cdv : Value} {ps : List Str} {k : Nat} {h : List Vl → M Vl} (F : FDd K x st dv fd cdv) (hm : mg x = some (.ref (He.ga K x))) (n j : Nat) (dl : List Vl) (hd : dv ≠ []) (hn : n + (dv.length - j) = ps.length)
    (hb : ∀ (T : Addr) (kV doc pm : Value) (an : Option Addr) (cdv ct : Value) (us its : List Value), us.length = n → its.length = dv.length →
      ∃ k, bindArgs (PySem.W.fnOf x x (defArgs st) (defBody st) (defScope st) (.ref T) kV doc pm an cdv ct) ⟨us, []⟩ = seqItems? (.ref T) >>= k ∧ k (some its.toArray) = pure (ps.zip (us ++ its.drop j)))
    (hv : ∀ H μ N, RpAll K mg H μ N dl ((dv.map (He.Dv.v K)).drop j))
    (ok : FnQ g P w K mg base k (He.ga K x) fd ps (spF K mg T ps.length h)) (hl : ∀ as S, as.length ≠ ps.length → h as S = none) : CalS g P w K mg T base k x dl h := by
  obtain ⟨ds, V, B⟩ := F.F.binds1 (ps := ps) n j (by simpa using hd) (by rw [List.length_map]; exact hn) (fun T kV doc pm an cdv ct us its l1 l2 => hb T kV doc pm an cdv ct us its l1 (by rw [l2, List.length_map]))
  exact ⟨_, fd, ps, ds, _, hm, F.F.kp, ok, hl, B, V, hv⟩
end
end Q

set_option linter.all false
set_option maxRecDepth 100000
set_option maxHeartbeats 400000
namespace Q
open PySem PySem.Spec PyProof.Rows L2

/-! ### what is wanted of a run -/
/-- what is wanted of an exception: its class, its field, the field's value, the store -/
abbrev XP := Str → Str → Vl → Sto → Prop
abbrev noE : XP := fun _ _ _ _ => False
def wpe {α : Type} (o : Option (R α × Sto)) (E : XP) (Q : α → Sto → Prop) : Prop := match o with
  | some (.ok a, S) => Q a S
  | some (.exc c f v, S) => E c f v S
  | none => False
def wpo {α : Type} (o : Option (α × Sto)) (Q : α → Sto → Prop) : Prop := match o with
  | some (a, S) => Q a S
  | none => False
/-- the ends of a statement -/
structure End_ where
  nx : En → Sto → Prop
  bk : En → Sto → Prop := fun _ _ => False
  ct : En → Sto → Prop := fun _ _ => False
  rt : Vl → Sto → Prop := fun _ _ => False
  ex : XP := noE
def wps (o : Option (Fl × En × Sto)) (D : End_) : Prop := match o with
  | some (.nx, ρ, S) => D.nx ρ S
  | some (.bk, ρ, S) => D.bk ρ S
  | some (.ct, ρ, S) => D.ct ρ S
  | some (.rt v, _, S) => D.rt v S
  | some (.ex c f v, _, S) => D.ex c f v S
  | none => False
section
variable {α β : Type} {E : XP} {S : Sto} {ρ : En} {D : End_}
theorem w_ok {a : α} {Q : α → Sto → Prop} : wpe (some (.ok a, S)) E Q = Q a S := rfl
theorem w_ret {a : α} {Q : α → Sto → Prop} : wpe (ret a S) E Q = Q a S := rfl
theorem w_bnd {m : M α} {k : α → M β} {Q : β → Sto → Prop} : wpe (bnd m k S) E Q = wpe (m S) E fun a S1 => wpe (k a S1) E Q := by
  unfold bnd
  cases m S with
  | none => rfl
  | some p => obtain ⟨r, S'⟩ := p; cases r <;> rfl
theorem w_lift {m : MO α} {Q : α → Sto → Prop} : wpe (lift m S) E Q = wpo (m S) Q := by
  unfold lift
  cases m S with
  | none => rfl
  | some p => obtain ⟨r, S'⟩ := p; rfl
theorem wo_some {a : α} {Q : α → Sto → Prop} : wpo (some (a, S)) Q = Q a S := rfl
theorem wo_if {c : Prop} [Decidable c] {a b : Option (α × Sto)} {Q : α → Sto → Prop} : wpo (if c then a else b) Q = if c then wpo a Q else wpo b Q := by split <;> rfl
theorem w_if {c : Prop} [Decidable c] {a b : Option (R α × Sto)} {Q : α → Sto → Prop} : wpe (if c then a else b) E Q = if c then wpe a E Q else wpe b E Q := by split <;> rfl
theorem w_slot {i : Nat} {Q : Vl → Sto → Prop} : wpe (mSlot i ρ S) E Q = ∃ v, ρ[i]? = some (some v) ∧ Q v S := by
  unfold mSlot
  apply propext
  cases e : ρ[i]? with
  | none => exact ⟨fun h => h.elim, fun ⟨w, e2, _⟩ => by cases e2⟩
  | some o =>
    cases o with
    | none => exact ⟨fun h => h.elim, fun ⟨w, e2, _⟩ => by cases e2⟩
    | some v => exact ⟨fun h => ⟨v, rfl, h⟩, fun ⟨w, e2, h⟩ => by cases e2; exact h⟩
theorem w_c {v : Vl} {Q : Vl → Sto → Prop} : wpe (mC v ρ S) E Q = Q v S := rfl
theorem w_nil {Q : List Vl → Sto → Prop} : wpe (mNil ρ S) E Q = Q [] S := rfl
theorem w_cons {f : En → M Vl} {g : En → M (List Vl)} {Q : List Vl → Sto → Prop} : wpe (mCons f g ρ S) E Q = wpe (f ρ S) E fun x S1 => wpe (g ρ S1) E fun xs S2 => Q (x :: xs) S2 := by
  unfold mCons; simp only [w_bnd, w_ret]
theorem w_bin {m : Vl → Vl → MO Vl} {fa fb : En → M Vl} {Q : Vl → Sto → Prop} : wpe (mBin m fa fb ρ S) E Q = wpe (fa ρ S) E fun x S1 => wpe (fb ρ S1) E fun y S2 => wpo (m x y S2) Q := by
  unfold mBin; simp only [w_bnd, w_lift]
theorem w_bi {m : List Vl → MO Vl} {g : En → M (List Vl)} {Q : Vl → Sto → Prop} : wpe (mBi m g ρ S) E Q = wpe (g ρ S) E fun vs S1 => wpo (m vs S1) Q := by
  unfold mBi; simp only [w_bnd, w_lift]
theorem w_tup {g : En → M (List Vl)} {Q : Vl → Sto → Prop} : wpe (mTup g ρ S) E Q = wpe (g ρ S) E fun xs S1 => xs.length ≤ sizeLine ∧ Q (.tup xs) S1 := by
  unfold mTup; simp only [w_bnd, w_lift]
  congr 1; funext xs S1; apply propext
  by_cases h : xs.length ≤ sizeLine
  · rw [if_pos h]; exact ⟨fun q => ⟨h, q⟩, fun q => q.2⟩
  · rw [if_neg h]; exact ⟨fun q => q.elim, fun q => (h q.1).elim⟩
theorem w_lst {g : En → M (List Vl)} {Q : Vl → Sto → Prop} : wpe (mLst g ρ S) E Q = wpe (g ρ S) E fun xs S1 => xs.length ≤ sizeLine ∧ Q (.ref S1.n) (S1.push (.lst xs)) := by
  unfold mLst; simp only [w_bnd, w_lift]
  congr 1; funext xs S1; apply propext
  by_cases h : xs.length ≤ sizeLine
  · rw [if_pos h]; exact ⟨fun q => ⟨h, q⟩, fun q => q.2⟩
  · rw [if_neg h]; exact ⟨fun q => q.elim, fun q => (h q.1).elim⟩
theorem w_tst {f : En → M Vl} {Q : Bool → Sto → Prop} : wpe (mTst f ρ S) E Q = wpe (f ρ S) E fun v S1 => ∃ b, v = .bl b ∧ Q b S1 := by
  unfold mTst; simp only [w_bnd]
  congr 1; funext v S1; apply propext
  cases v with
  | bl b => exact ⟨fun q => ⟨b, rfl, q⟩, fun ⟨c, e, q⟩ => by cases e; exact q⟩
  | _ => exact ⟨fun q => q.elim, fun ⟨c, e, _⟩ => by cases e⟩
theorem w_not {f : En → M Bool} {Q : Bool → Sto → Prop} : wpe (mNot f ρ S) E Q = wpe (f ρ S) E fun b S1 => Q (!b) S1 := by
  unfold mNot; simp only [w_bnd, w_ret]
theorem w_and {f g : En → M Bool} {Q : Bool → Sto → Prop} : wpe (mAnd f g ρ S) E Q = wpe (f ρ S) E fun b S1 => if b = true then wpe (g ρ S1) E Q else Q false S1 := by
  unfold mAnd; simp only [w_bnd]
  congr 1; funext b S1; cases b <;> rfl
theorem w_or {f g : En → M Bool} {Q : Bool → Sto → Prop} : wpe (mOr f g ρ S) E Q = wpe (f ρ S) E fun b S1 => if b = true then Q true S1 else wpe (g ρ S1) E Q := by
  unfold mOr; simp only [w_bnd]
  congr 1; funext b S1; cases b <;> rfl
theorem w_ite {c : En → M Bool} {f g : En → M Vl} {Q : Vl → Sto → Prop} : wpe (mIte c f g ρ S) E Q = wpe (c ρ S) E fun b S1 => if b = true then wpe (f ρ S1) E Q else wpe (g ρ S1) E Q := by
  unfold mIte; simp only [w_bnd]
  congr 1; funext b S1; cases b <;> rfl
theorem w_andV {f g : En → M Vl} {Q : Vl → Sto → Prop} : wpe (mAndV f g ρ S) E Q = wpe (f ρ S) E fun v S1 => ∃ b, v = .bl b ∧ if b = true then wpe (g ρ S1) E Q else Q (.bl false) S1 := by
  unfold mAndV; simp only [w_bnd]
  congr 1; funext v S1; apply propext
  cases v with
  | bl b => exact ⟨fun q => ⟨b, rfl, by cases b <;> exact q⟩, fun ⟨c, e, q⟩ => by cases e; cases b <;> exact q⟩
  | _ => exact ⟨fun q => q.elim, fun ⟨c, e, _⟩ => by cases e⟩
theorem w_orV {f g : En → M Vl} {Q : Vl → Sto → Prop} : wpe (mOrV f g ρ S) E Q = wpe (f ρ S) E fun v S1 => ∃ b, v = .bl b ∧ if b = true then Q (.bl true) S1 else wpe (g ρ S1) E Q := by
  unfold mOrV; simp only [w_bnd]
  congr 1; funext v S1; apply propext
  cases v with
  | bl b => exact ⟨fun q => ⟨b, rfl, by cases b <;> exact q⟩, fun ⟨c, e, q⟩ => by cases e; cases b <;> exact q⟩
  | _ => exact ⟨fun q => q.elim, fun ⟨c, e, _⟩ => by cases e⟩
theorem w_call {f : List Vl → M Vl} {g : En → M (List Vl)} {Q : Vl → Sto → Prop} : wpe (mCall f [] g ρ S) E Q = wpe (g ρ S) E fun vs S1 => wpe (f vs S1) E Q := by
  unfold mCall; simp only [w_bnd, List.append_nil]
theorem w_callK {f : List Vl → M Vl} {p : List Nat} {g : En → M (List Vl)} {Q : Vl → Sto → Prop} : wpe (mCallK f p g ρ S) E Q = wpe (g ρ S) E fun vs S1 => wpe (f (reord p vs) S1) E Q := by
  unfold mCallK; simp only [w_bnd]
theorem w_met {Ty : String} {m : Vl → List Vl → MO Vl} {f : En → M Vl} {g : En → M (List Vl)} {Q : Vl → Sto → Prop} : wpe (mMet Ty m f g ρ S) E Q = wpe (f ρ S) E fun o S1 => tyB Ty S1 o = true ∧ wpe (g ρ S1) E fun as S2 => wpo (m o as S2) Q := by
  unfold mMet; simp only [w_bnd]
  congr 1; funext o S1; apply propext
  by_cases h : tyB Ty S1 o = true
  · rw [if_pos h, w_bnd]; simp only [w_lift]; exact ⟨fun q => ⟨h, q⟩, fun q => q.2⟩
  · rw [if_neg h]; exact ⟨fun q => q.elim, fun q => (h q.1).elim⟩
theorem w_caught {cs : List Str} {f : En → M Vl} {Q : Vl → Sto → Prop} : wpe (mCaught cs f ρ S) E Q = wpe (f ρ S) (fun c g v S1 => c ∈ cs ∧ g = "" ∧ v = .non ∧ Q (.exc c "" .non) S1) fun _ S1 => Q .non S1 := by
  unfold mCaught
  cases e : f ρ S with
  | none => rfl
  | some p =>
    obtain ⟨r, S1⟩ := p
    cases r with
    | ok v => rfl
    | exc c g v =>
      apply propext
      show wpe (if c ∈ cs then (match v with
        | .non => if g = "" then some (.ok (.exc c "" .non), S1) else none
        | _ => none) else none) E Q ↔ (c ∈ cs ∧ g = "" ∧ v = .non ∧ Q (.exc c "" .non) S1)
      by_cases hc : c ∈ cs
      · rw [if_pos hc]
        cases v with
        | non =>
          by_cases hg : g = ""
          · show wpe (if g = "" then some (.ok (.exc c "" .non), S1) else none) E Q ↔ _
            rw [if_pos hg]; exact ⟨fun q => ⟨hc, hg, rfl, q⟩, fun q => q.2.2.2⟩
          · show wpe (if g = "" then some (.ok (.exc c "" .non), S1) else none) E Q ↔ _
            rw [if_neg hg]; exact ⟨fun q => q.elim, fun q => (hg q.2.1).elim⟩
        | _ => exact ⟨fun q => q.elim, fun q => by cases q.2.2.1⟩
      · rw [if_neg hc]; exact ⟨fun q => q.elim, fun q => (hc q.1).elim⟩
/-! statements -/
theorem s_seq {a b : MS} : wps (sSeq a b ρ S) D = wps (a ρ S) { D with nx := fun ρ1 S1 => wps (b ρ1 S1) D } := by
  unfold sSeq
  cases a ρ S with
  | none => rfl
  | some p => obtain ⟨fl, ρ', S'⟩ := p; cases fl <;> rfl
theorem s_if {c : En → M Bool} {a b : MS} : wps (sIf c a b ρ S) D = wpe (c ρ S) D.ex fun t S1 => if t = true then wps (a ρ S1) D else wps (b ρ S1) D := by
  unfold sIf
  cases c ρ S with
  | none => rfl
  | some p =>
    obtain ⟨r, S'⟩ := p
    cases r with
    | ok t => cases t <;> rfl
    | exc c g v => rfl
theorem s_ret {f : En → M Vl} : wps (sRet f ρ S) D = wpe (f ρ S) D.ex D.rt := by
  unfold sRet
  cases f ρ S with
  | none => rfl
  | some p => obtain ⟨r, S'⟩ := p; cases r <;> rfl
theorem s_exp {f : En → M Vl} : wps (sExp f ρ S) D = wpe (f ρ S) D.ex fun _ S1 => D.nx ρ S1 := by
  unfold sExp
  cases f ρ S with
  | none => rfl
  | some p => obtain ⟨r, S'⟩ := p; cases r <;> rfl
theorem s_skip : wps (sSkip ρ S) D = D.nx ρ S := rfl
theorem s_cont : wps (sCont ρ S) D = D.ct ρ S := rfl
theorem s_break : wps (sBreak ρ S) D = D.bk ρ S := rfl
theorem s_raise {c : Str} : wps (sRaise c ρ S) D = D.ex c "" .non S := rfl
theorem s_set {f : En → M Vl} {i : Nat} : wps (sAsg f (gNm i) ρ S) D = wpe (f ρ S) D.ex fun v S1 => D.nx (ρ.set i (some v)) S1 := by
  unfold sAsg
  cases f ρ S with
  | none => rfl
  | some p => obtain ⟨r, S'⟩ := p; cases r <;> rfl
theorem s_asg {f : En → M Vl} {g : Vl → En → MO En} : wps (sAsg f g ρ S) D = wpe (f ρ S) D.ex fun v S1 => wpo (g v ρ S1) D.nx := by
  unfold sAsg
  cases f ρ S with
  | none => rfl
  | some p =>
    obtain ⟨r, S'⟩ := p
    cases r with
    | ok v =>
      show wps (match g v ρ S' with | none => none | some (ρ', S2) => some (.nx, ρ', S2)) D = wpo (g v ρ S') D.nx
      cases g v ρ S' with
      | none => rfl
      | some q => obtain ⟨a, b⟩ := q; rfl
    | exc c g v => rfl
theorem s_par {is : List Nat} {g : En → M (List Vl)} : wps (sPar is g ρ S) D = wpe (g ρ S) D.ex fun vs S1 => vs.length = is.length ∧ D.nx ((is.zip vs).foldl (fun ρ p => ρ.set p.1 (some p.2)) ρ) S1 := by
  unfold sPar
  cases g ρ S with
  | none => rfl
  | some p =>
    obtain ⟨r, S'⟩ := p
    cases r with
    | ok vs =>
      apply propext
      by_cases h : vs.length = is.length
      · show wps (if _ then _ else _) D ↔ _
        rw [if_pos h]; exact ⟨fun q => ⟨h, q⟩, fun q => q.2⟩
      · show wps (if _ then _ else _) D ↔ _
        rw [if_neg h]; exact ⟨fun q => q.elim, fun q => (h q.1).elim⟩
    | exc c g v => rfl
theorem s_aug {i : Nat} {f : En → M Vl} {m : Vl → Vl → MO Vl} : wps (sAug i f m ρ S) D = ∃ x, ρ[i]? = some (some x) ∧ wpe (f ρ S) D.ex fun v S1 => wpo (m x v S1) fun z S2 => D.nx (ρ.set i (some z)) S2 := by
  unfold sAug
  apply propext
  cases e : ρ[i]? with
  | none => exact ⟨fun h => h.elim, fun ⟨w, e2, _⟩ => by cases e2⟩
  | some o =>
    cases o with
    | none => exact ⟨fun h => h.elim, fun ⟨w, e2, _⟩ => by cases e2⟩
    | some x =>
      have key : wps (match f ρ S with
        | none => none
        | some (.ok v, S') => (match m x v S' with | none => none | some (z, S2) => some (.nx, ρ.set i (some z), S2))
        | some (.exc c g v, S') => some (.ex c g v, ρ, S')) D = wpe (f ρ S) D.ex fun v S1 => wpo (m x v S1) fun z S2 => D.nx (ρ.set i (some z)) S2 := by
        cases f ρ S with
        | none => rfl
        | some p =>
          obtain ⟨r, S'⟩ := p
          cases r with
          | ok v =>
            show wps (match m x v S' with | none => none | some (z, S2) => some (.nx, ρ.set i (some z), S2)) D = wpo (m x v S') _
            cases m x v S' with
            | none => rfl
            | some q => obtain ⟨a, b⟩ := q; rfl
          | exc c g v => rfl
      exact ⟨fun h => ⟨x, rfl, key ▸ h⟩, fun ⟨y, e2, h⟩ => by cases e2; exact key.symm ▸ h⟩
/-- a def's call -/
theorem w_run {nN np : Nat} {b : MS} {as : List Vl} {Q : Vl → Sto → Prop} (hl : as.length = np) (h : wps (b (startE nN as) S) ⟨fun _ S1 => Q .non S1, fun _ _ => False, fun _ _ => False, Q, E⟩) : wpe (runF nN np b as S) E Q := by
  unfold runF
  rw [if_pos hl]
  cases e : b (startE nN as) S with
  | none => rw [e] at h; exact h.elim
  | some p =>
    obtain ⟨fl, ρ', S'⟩ := p
    rw [e] at h
    cases fl with
    | nx => exact h
    | bk => exact h.elim
    | ct => exact h.elim
    | rt v => exact h
    | ex c g v => exact h
theorem wpe_mono {o : Option (R α × Sto)} {E E' : XP} {Q Q' : α → Sto → Prop} (h : wpe o E Q) (hq : ∀ a S, Q a S → Q' a S) (he : ∀ c f v S, E c f v S → E' c f v S) : wpe o E' Q' := by
  match o, h with
  | some (.ok a, S), h => exact hq a S h
  | some (.exc c f v, S), h => exact he c f v S h
theorem wps_mono {o : Option (Fl × En × Sto)} {D D' : End_} (h : wps o D) (h1 : ∀ ρ S, D.nx ρ S → D'.nx ρ S) (h2 : ∀ ρ S, D.bk ρ S → D'.bk ρ S) (h3 : ∀ ρ S, D.ct ρ S → D'.ct ρ S) (h4 : ∀ v S, D.rt v S → D'.rt v S) (h5 : ∀ c f v S, D.ex c f v S → D'.ex c f v S) : wps o D' := by
  match o, h with
  | some (.nx, ρ, S), h => exact h1 ρ S h
  | some (.bk, ρ, S), h => exact h2 ρ S h
  | some (.ct, ρ, S), h => exact h3 ρ S h
  | some (.rt v, _, S), h => exact h4 v S h
  | some (.ex c f v, _, S), h => exact h5 c f v S h
theorem wpe_ok {o : Option (R α × Sto)} {Q : α → Sto → Prop} (h : wpe o noE Q) : ∃ a S, o = some (.ok a, S) ∧ Q a S := by
  match o, h with
  | some (.ok a, S), h => exact ⟨a, S, rfl, h⟩
  | some (.exc c f v, S), h => exact h.elim
end

/-! ### loops -/
theorem lim_is {α : Type} {f : Nat → Option α} {r : α} {n : Nat} (h : f n = some r) (hm : ∀ n m a b, f n = some a → f m = some b → a = b) : lim f = some r := by
  have hx : ∃ n, (f n).isSome = true := ⟨n, by rw [h]; rfl⟩
  unfold lim
  rw [dif_pos hx]
  obtain ⟨b, hb⟩ := Option.isSome_iff_exists.mp (Classical.choose_spec hx)
  rw [hb, hm _ _ _ _ hb h]
theorem forN_mono {nx : Nxt} {g : Vl → En → MO En} {b : MS} : ∀ {n i : Nat} {ρ : En} {S : Sto} {r : Fl × En × Sto}, forN nx g b n i ρ S = some r → ∀ m, n ≤ m → forN nx g b m i ρ S = some r
  | 0, _, _, _, _, h, _, _ => by cases h
  | n + 1, i, ρ, S, r, h, 0, hm => by omega
  | n + 1, i, ρ, S, r, h, m + 1, hm => by
    unfold forN at h ⊢
    cases e : nx i S with
    | none => rw [e] at h; cases h
    | some p =>
      rw [e] at h
      cases p with
      | none => exact h
      | some v =>
        simp only at h ⊢
        cases e1 : g v ρ S with
        | none => rw [e1] at h; cases h
        | some p1 =>
          obtain ⟨ρ1, S1⟩ := p1
          rw [e1] at h
          simp only at h ⊢
          cases e2 : b ρ1 S1 with
          | none => rw [e2] at h; cases h
          | some p2 =>
            obtain ⟨fl, ρ', S2⟩ := p2
            rw [e2] at h
            cases fl with
            | nx => exact forN_mono (n := n) h m (by omega)
            | ct => exact forN_mono (n := n) h m (by omega)
            | bk => exact h
            | rt v => exact h
            | ex _ _ _ => exact h
theorem det_of_mono {α : Type} {f : Nat → Option α} (h : ∀ n r, f n = some r → ∀ m, n ≤ m → f m = some r) : ∀ n m a b, f n = some a → f m = some b → a = b := fun n m a b e1 e2 => by
  rcases Nat.le_total n m with q | q
  · rw [h n a e1 m q] at e2; exact Option.some.inj e2
  · rw [h m b e2 n q] at e1; exact (Option.some.inj e1).symm
theorem wps_lim {f : Nat → Option (Fl × En × Sto)} {D : End_} {n : Nat} (hm : ∀ n r, f n = some r → ∀ m, n ≤ m → f m = some r) (h : wps (f n) D) : wps (lim f) D := by
  cases e : f n with
  | none => rw [e] at h; exact h.elim
  | some r => rw [lim_is e (det_of_mono hm), ← e]; exact h
/-- for over a list of values that stays what it is -/
theorem s_forN {nx : Nxt} {g : Vl → En → MO En} {b : MS} {D : End_} (xs : List Vl) (J : Nat → En → Sto → Prop) (hn : ∀ i ρ S, i ≤ xs.length → J i ρ S → nx i S = some xs[i]?)
    (step : ∀ i x ρ S, xs[i]? = some x → J i ρ S → wpo (g x ρ S) fun ρ1 S1 => wps (b ρ1 S1) ⟨J (i + 1), D.nx, J (i + 1), D.rt, D.ex⟩) (done : ∀ ρ S, J xs.length ρ S → D.nx ρ S) :
    ∀ (k i : Nat) {ρ : En} {S : Sto}, i + k = xs.length → J i ρ S → wps (forN nx g b (k + 1) i ρ S) D
  | 0, i, ρ, S, hi, h => by
    unfold forN
    rw [hn i ρ S (by omega) h, List.getElem?_eq_none (by omega)]
    have e : i = xs.length := by omega
    rw [e] at h
    exact done ρ S h
  | k + 1, i, ρ, S, hi, h => by
    unfold forN
    have hx : xs[i]? = some xs[i] := List.getElem?_eq_getElem (by omega)
    have q := step i _ ρ S hx h
    rw [hn i ρ S (by omega) h, hx]
    simp only
    cases e : g xs[i] ρ S with
    | none => rw [e] at q; exact q.elim
    | some p =>
      obtain ⟨ρ1, S1⟩ := p
      rw [e] at q
      have q : wps (b ρ1 S1) _ := q
      simp only
      cases e2 : b ρ1 S1 with
      | none => rw [e2] at q; exact q.elim
      | some p2 =>
        obtain ⟨fl, ρ', S2⟩ := p2
        rw [e2] at q
        cases fl with
        | nx => exact s_forN xs J hn step done k (i + 1) (by omega) q
        | ct => exact s_forN xs J hn step done k (i + 1) (by omega) q
        | bk => exact q
        | rt v => exact q
        | ex _ _ _ => exact q
theorem s_for {fi : En → M Nxt} {g : Vl → En → MO En} {b : MS} {D : End_} {ρ : En} {S : Sto} (h : wpe (fi ρ S) D.ex fun nx S1 => ∃ (xs : List Vl) (J : Nat → En → Sto → Prop), J 0 ρ S1 ∧ (∀ i ρ S, i ≤ xs.length → J i ρ S → nx i S = some xs[i]?) ∧
    (∀ i x ρ S, xs[i]? = some x → J i ρ S → wpo (g x ρ S) fun ρ1 S1 => wps (b ρ1 S1) ⟨J (i + 1), D.nx, J (i + 1), D.rt, D.ex⟩) ∧ ∀ ρ S, J xs.length ρ S → D.nx ρ S) : wps (sFor fi g b ρ S) D := by
  unfold sFor
  cases e : fi ρ S with
  | none => rw [e] at h; exact h.elim
  | some p =>
    obtain ⟨r, S1⟩ := p
    rw [e] at h
    cases r with
    | exc c f v => exact h
    | ok nx =>
      obtain ⟨xs, J, h0, hn, step, done⟩ := h
      exact wps_lim (n := xs.length + 1) (fun n r e m hm => forN_mono e m hm) (s_forN xs J hn step done xs.length 0 (by omega) h0)
end Q

set_option linter.all false
set_option maxRecDepth 100000
set_option maxHeartbeats 400000
namespace Q
open PySem PySem.Spec PyProof.Rows L2

/-! ### what is wanted of the operators -/
section
variable {S : Sto} {Z : Vl → Sto → Prop} {i j : Int} {n m : Nat} {xs ys : List Vl} {v : Vl}
theorem o_add : wpo (bAdd (.int i) (.int j) S) Z = Z (.int (i + j)) S := rfl
theorem o_sub : wpo (bSub (.int i) (.int j) S) Z = Z (.int (i - j)) S := rfl
theorem o_addl (h1 : S.at_ n = .lst xs) (h2 : S.at_ m = .lst ys) : wpo (bAdd (.ref n) (.ref m) S) Z = (xs.length + ys.length ≤ sizeLine ∧ Z (.ref S.n) (S.push (.lst (xs ++ ys)))) := by
  show wpo (match S.at_ n, S.at_ m with | .lst xs, .lst ys => if xs.length + ys.length ≤ sizeLine then some (.ref S.n, S.push (.lst (xs ++ ys))) else none | _, _ => none) Z = _
  rw [h1, h2]
  apply propext
  by_cases h : xs.length + ys.length ≤ sizeLine
  · simp only [if_pos h]; exact ⟨fun q => ⟨h, q⟩, fun q => q.2⟩
  · simp only [if_neg h]; exact ⟨fun q => q.elim, fun q => (h q.1).elim⟩
theorem o_mul (h : CMul i j) : wpo (bMul (.int i) (.int j) S) Z = Z (.int (i * j)) S := by
  show wpo (if CMul i j then some (.int (i * j), S) else none) Z = _
  rw [if_pos h]; rfl
theorem o_div (h : CDiv i j) : wpo (bDiv (.int i) (.int j) S) Z = Z (.int (i / j)) S := by
  show wpo (if CDiv i j then some (.int (i / j), S) else none) Z = _
  rw [if_pos h]; rfl
theorem o_mod (h : 0 < j) : wpo (bMod (.int i) (.int j) S) Z = Z (.int (i % j)) S := by
  show wpo (if 0 < j then some (.int (i % j), S) else none) Z = _
  rw [if_pos h]; rfl
theorem o_pow (h : CPow i j) : wpo (bPow (.int i) (.int j) S) Z = Z (.int (i ^ j.toNat)) S := by
  show wpo (if CPow i j then some (.int (i ^ j.toNat), S) else none) Z = _
  rw [if_pos h]; rfl
theorem o_abs : wpo (bAbs [.int i] S) Z = Z (.int (if i < 0 then -i else i)) S := rfl
theorem o_int : wpo (bInt [.int i] S) Z = Z (.int i) S := rfl
theorem o_lenl (h : S.at_ n = .lst xs) : wpo (bLen [.ref n] S) Z = Z (.int xs.length) S := by
  show wpo (match S.at_ n with | .lst xs => some (.int xs.length, S) | .ro xs => some (.int xs.length, S) | .dic _ kvs => some (.int kvs.length, S) | _ => none) Z = _
  rw [h]; rfl
theorem o_eqi : wpo (bEq (.int i) (.int j) S) Z = Z (.bl (i == j)) S := rfl
theorem o_ned {a b : Vl} {d e : PyData} (h1 : toD S a = some d) (h2 : toD S b = some e) (hs : ¬ ∃ x y, a = .str x ∧ b = .str y) (c1 : d.canLay0 = true) (c2 : e.canLay0 = true) (c3 : min d.depth e.depth ≤ 190) : wpo (bNe a b S) Z = Z (.bl (!PyData.eqv d e)) S := by
  rcases bEqW_eq (neg := true) (a := a) (b := b) with z | z
  · exact absurd z hs
  · show wpo (bEqW _ a b S) Z = _
    rw [z]; unfold bEqD; rw [h1, h2]; simp only [c1, c2, Bool.and_self, Bool.true_and, decide_eq_true_eq, if_pos c3]; rfl
theorem o_at {k : Nat} (h : xs[k]? = some v) (hk : k < 2 ^ 62) : wpo (bSub' (.tup xs) (.int k) S) Z = Z v S := by
  have hl : k < xs.length := by
    rw [List.getElem?_eq_some_iff] at h; exact h.1
  have e : atI xs (k : Int) = some v := by
    unfold atI
    have e2 : seqIndex? (k : Int) xs.length = some k := by
      unfold seqIndex?
      have h1 : ¬ ((k : Int) < 0) := by omega
      simp only [h1, if_false]
      have h2 : (decide ((0 : Int) ≤ k) && decide ((k : Int) < xs.length)) = true := by simp; omega
      rw [if_pos h2]; simp
    have hb : -(2 ^ 63) ≤ (k : Int) ∧ (k : Int) < 2 ^ 63 := by constructor <;> omega
    have h9 : xs[k] = v := by rw [List.getElem?_eq_getElem hl] at h; exact Option.some.inj h
    simp [ixN, hb, e2, hl, h9]
  show wpo (match atI xs (k : Int) with | some v => some (v, S) | none => none) Z = _
  rw [e]; rfl
theorem o_at0 : wpo (bSub' (.tup (v :: xs)) (.int 0) S) Z = Z v S := o_at (k := 0) rfl (by decide)
theorem o_at1 {a : Vl} : wpo (bSub' (.tup (a :: v :: xs)) (.int 1) S) Z = Z v S := o_at (k := 1) rfl (by decide)
theorem o_at2 {a b : Vl} : wpo (bSub' (.tup (a :: b :: v :: xs)) (.int 2) S) Z = Z v S := o_at (k := 2) rfl (by decide)
theorem o_key {lk : Bool} {kvs : List (Vl × Vl)} {k : Vl} (h : S.at_ n = .dic lk kvs) (hk : (keyOf k).isSome = true) (hv : dGet kvs k = some v) : wpo (bSub' (.ref n) k S) Z = Z v S := by
  obtain ⟨κ, hκ⟩ := Option.isSome_iff_exists.mp hk
  have e : getD S n = some kvs := by unfold getD; rw [h]
  show wpo (match getD S n with
    | some kvs => (match keyOf k with
      | some _ => (match dGet kvs k with | some v => some (v, S) | none => none)
      | none => none)
    | none => bIdx (.ref n) k S) Z = _
  rw [e]; simp only; rw [hκ]; simp only; rw [hv]; rfl
theorem o_tyl (h : S.at_ n = .lst xs) : tyB "list" S (.ref n) = true := by
  show (match S.at_ n with | .lst _ => ("list" : String) == "list" | .ro _ => ("list" : String) == "list" | .dic false _ => ("list" : String) == "dict" | _ => false) = true
  rw [h]; rfl
/-- a list against [] -/
theorem toD_list {ds : List PyData} (h : S.at_ n = .lst xs) (hd : toDWs (lkN S 5) xs = some ds) : toD S (.ref n) = some (.list ds) := by
  show (match S.at_ n with | .lst xs => (toDWs (lkN S 5) xs).map PyData.list | .ro xs => (toDWs (lkN S 5) xs).map PyData.list | _ => none) = _
  rw [h]; simp only; rw [hd]; rfl
end
end Q

set_option linter.all false
set_option maxRecDepth 100000
set_option maxHeartbeats 400000
namespace Q
open PySem PySem.Spec PyProof.Rows L2

/-! ### data: lists of the store from lo on, read k deep -/
mutual
inductive Dat (lo : Nat) (S : Sto) : Nat → Vl → PyData → Prop
  | non {k : Nat} : Dat lo S k .non .none
  | bl {k : Nat} (b : Bool) : Dat lo S k (.bl b) (.bool b)
  | int {k : Nat} (i : Int) : Dat lo S k (.int i) (.int i)
  | str {k : Nat} (x : Str) : x.cps.all (· < 0x110000) = true → Dat lo S k (.str x) (.str x)
  | tup {k : Nat} {xs : List Vl} {ds : List PyData} : DatAll lo S k xs ds → Dat lo S k (.tup xs) (.tuple ds)
  | lst {k n : Nat} {xs : List Vl} {ds : List PyData} : lo ≤ n → n < S.n → S.at_ n = .lst xs → DatAll lo S k xs ds → Dat lo S (k + 1) (.ref n) (.list ds)
inductive DatAll (lo : Nat) (S : Sto) : Nat → List Vl → List PyData → Prop
  | nil {k : Nat} : DatAll lo S k [] []
  | cons {k : Nat} {x : Vl} {d : PyData} {xs : List Vl} {ds : List PyData} : Dat lo S k x d → DatAll lo S k xs ds → DatAll lo S k (x :: xs) (d :: ds)
end
/-- the store grows; from lo on it stays -/
structure Gr (lo : Nat) (S S' : Sto) : Prop where
  n : S.n ≤ S'.n
  at_ : ∀ i, lo ≤ i → i < S.n → S'.at_ i = S.at_ i
section
variable {lo : Nat} {S S' S2 : Sto}
theorem Gr.refl : Gr lo S S := ⟨Nat.le_refl _, fun _ _ _ => rfl⟩
theorem Gr.trans (a : Gr lo S S') (b : Gr lo S' S2) : Gr lo S S2 := ⟨Nat.le_trans a.n b.n, fun i h1 h2 => (b.at_ i h1 (Nat.lt_of_lt_of_le h2 a.n)).trans (a.at_ i h1 h2)⟩
theorem Gr.push {o : Ob} : Gr lo S (S.push o) := ⟨Nat.le_succ _, fun i _ h => push_lt h⟩
theorem Gr.set_new {S0 : Sto} {k : Nat} {o : Ob} (g : Gr lo S0 S) (h : S0.n ≤ k) : Gr lo S0 (S.set k o) := ⟨g.n, fun i h1 h2 => by rw [set_ne (by omega)]; exact g.at_ i h1 h2⟩
theorem Gr.set_low {S0 : Sto} {k : Nat} {o : Ob} (g : Gr lo S0 S) (h : k < lo) : Gr lo S0 (S.set k o) := ⟨g.n, fun i h1 h2 => by rw [set_ne (by omega)]; exact g.at_ i h1 h2⟩
theorem Gr.up {hi : Nat} (g : Gr lo S S') (h : lo ≤ hi) : Gr hi S S' := ⟨g.n, fun i h1 h2 => g.at_ i (Nat.le_trans h h1) h2⟩
mutual
theorem Dat.gr (g : Gr lo S S') : ∀ {k : Nat} {v : Vl} {d : PyData}, Dat lo S k v d → Dat lo S' k v d
  | _, _, _, .non => .non
  | _, _, _, .bl b => .bl b
  | _, _, _, .int b => .int b
  | _, _, _, .str b h => .str b h
  | _, _, _, .tup h => .tup (DatAll.gr g h)
  | _, _, _, .lst h1 h2 h3 h4 => .lst h1 (Nat.lt_of_lt_of_le h2 g.n) ((g.at_ _ h1 h2).trans h3) (DatAll.gr g h4)
theorem DatAll.gr (g : Gr lo S S') : ∀ {k : Nat} {v : List Vl} {d : List PyData}, DatAll lo S k v d → DatAll lo S' k v d
  | _, _, _, .nil => .nil
  | _, _, _, .cons h t => .cons (Dat.gr g h) (DatAll.gr g t)
end
mutual
theorem Dat.toDW : ∀ {k : Nat} {v : Vl} {d : PyData}, Dat lo S k v d → Q.toDW (lkN S k) v = some d
  | _, _, _, .non => rfl
  | _, _, _, .bl b => rfl
  | _, _, _, .int b => rfl
  | _, _, _, .str b _ => rfl
  | _, _, _, .tup h => by unfold Q.toDW; rw [DatAll.toDWs h]; rfl
  | k + 1, _, _, .lst (n := n) h1 h2 h3 h4 => by
    show lkN S (k + 1) n = _
    unfold lkN
    rw [h3]; simp only; rw [DatAll.toDWs h4]; rfl
theorem DatAll.toDWs : ∀ {k : Nat} {v : List Vl} {d : List PyData}, DatAll lo S k v d → Q.toDWs (lkN S k) v = some d
  | _, _, _, .nil => rfl
  | _, _, _, .cons h t => by unfold Q.toDWs; rw [Dat.toDW h, DatAll.toDWs t]
end
mutual
theorem Dat.lay : ∀ {k : Nat} {v : Vl} {d : PyData}, Dat lo S k v d → d.canLay0 = true
  | _, _, _, .non => rfl
  | _, _, _, .bl b => rfl
  | _, _, _, .int b => rfl
  | _, _, _, .str b h => h
  | _, _, _, .tup h => by show PyData.canLayAll0 _ = true; exact DatAll.lay h
  | _, _, _, .lst _ _ _ h => by show PyData.canLayAll0 _ = true; exact DatAll.lay h
theorem DatAll.lay : ∀ {k : Nat} {v : List Vl} {d : List PyData}, DatAll lo S k v d → PyData.canLayAll0 d = true
  | _, _, _, .nil => rfl
  | _, _, _, .cons h t => by show (PyData.canLay0 _ && PyData.canLayAll0 _) = true; rw [Dat.lay h, DatAll.lay t]; rfl
end
theorem Dat.ty {k : Nat} {v : Vl} {d : PyData} (h : Dat lo S k v d) : ∃ t, tyN S v = some t := by
  cases h with
  | lst h1 h2 h3 h4 => exact ⟨"list", by show (match S.at_ _ with | .lst _ => some "list" | .ro _ => some "list" | .dic _ _ => some "dict" | _ => none) = _; rw [h3]⟩
  | _ => exact ⟨_, rfl⟩
theorem datAll_of {k : Nat} : ∀ {xs : List Vl}, (∀ x ∈ xs, ∃ d, Dat lo S k x d) → ∃ ds, DatAll lo S k xs ds
  | [], _ => ⟨[], .nil⟩
  | x :: xs, h => by
    obtain ⟨d, hd⟩ := h x List.mem_cons_self
    obtain ⟨ds, hs⟩ := datAll_of fun y hy => h y (List.mem_cons_of_mem _ hy)
    exact ⟨d :: ds, .cons hd hs⟩
theorem DatAll.append {k : Nat} : ∀ {xs ys : List Vl} {ds es : List PyData}, DatAll lo S k xs ds → DatAll lo S k ys es → DatAll lo S k (xs ++ ys) (ds ++ es)
  | _, _, _, _, .nil, h => h
  | _, _, _, _, .cons h t, k => .cons h (t.append k)
theorem DatAll.length {k : Nat} : ∀ {xs : List Vl} {ds : List PyData}, DatAll lo S k xs ds → ds.length = xs.length
  | _, _, .nil => rfl
  | _, _, .cons _ t => by simp [t.length]
/-- a list against a list that is empty -/
theorem o_neNil {n m : Nat} {xs : List Vl} {Z : Vl → Sto → Prop} (h1 : S.at_ n = .lst xs) (hx : ∀ x ∈ xs, ∃ d, Dat lo S 5 x d) (h2 : S.at_ m = .lst []) : wpo (bNe (.ref n) (.ref m) S) Z = Z (.bl (!xs.isEmpty)) S := by
  obtain ⟨ds, hd⟩ := datAll_of hx
  rw [o_ned (d := .list ds) (e := .list []) (toD_list h1 hd.toDWs) (toD_list h2 rfl) (fun ⟨x, y, e, _⟩ => by cases e) (show PyData.canLayAll0 ds = true from hd.lay) rfl (Nat.le_trans (Nat.min_le_right _ _) (by decide))]
  cases hd with
  | nil => rfl
  | cons _ _ => rfl
end
end Q

set_option linter.all false
set_option maxRecDepth 100000
set_option maxHeartbeats 400000
namespace Q
open PySem PySem.Spec PyProof.Rows L2

/-! ### what is wanted of a comprehension, of the functions on lists -/
theorem lcN_mono {nx : Nxt} {t : Tg} {c : En → M Bool} {f : En → M Vl} {D : Nat} {ρ : En} : ∀ {n i : Nat} {S : Sto} {r : Sto}, lcN nx t c f D ρ n i S = some r → ∀ m, n ≤ m → lcN nx t c f D ρ m i S = some r
  | 0, _, _, _, h, _, _ => by cases h
  | n + 1, i, S, r, h, 0, hm => by omega
  | n + 1, i, S, r, h, m + 1, hm => by
    unfold lcN at h ⊢
    cases e : nx i S with
    | none => rw [e] at h; cases h
    | some o =>
      rw [e] at h
      cases o with
      | none => exact h
      | some v =>
        simp only at h ⊢
        cases e1 : t.run v ρ with
        | none => rw [e1] at h; cases h
        | some ρ1 =>
          rw [e1] at h
          simp only at h ⊢
          cases e2 : c ρ1 S with
          | none => rw [e2] at h; cases h
          | some p =>
            obtain ⟨q, S1⟩ := p
            rw [e2] at h
            cases q with
            | exc _ _ _ => cases h
            | ok b =>
              cases b with
              | false => exact lcN_mono (n := n) h m (by omega)
              | true =>
                simp only at h ⊢
                cases e3 : f ρ1 S1 with
                | none => rw [e3] at h; cases h
                | some p3 =>
                  obtain ⟨q3, S2⟩ := p3
                  rw [e3] at h
                  cases q3 with
                  | exc _ _ _ => cases h
                  | ok y =>
                    simp only at h ⊢
                    cases e4 : S2.at_ D with
                    | lst acc =>
                      rw [e4] at h
                      simp only at h ⊢
                      by_cases hz : acc.length < sizeLine
                      · rw [if_pos hz] at h ⊢; exact lcN_mono (n := n) h m (by omega)
                      · rw [if_neg hz] at h; cases h
                    | _ => rw [e4] at h; cases h
theorem w_lcN {nx : Nxt} {t : Tg} {c : En → M Bool} {f : En → M Vl} {D : Nat} {ρ : En} {Z : Sto → Prop} (xs : List Vl) (J : Nat → List Vl → Sto → Prop) (hn : ∀ i acc S, i ≤ xs.length → J i acc S → nx i S = some xs[i]?)
    (step : ∀ i x acc S, xs[i]? = some x → J i acc S → ∃ ρ1, t.run x ρ = some ρ1 ∧ wpe (c ρ1 S) noE fun b S2 => if b = true then wpe (f ρ1 S2) noE fun y S3 => S3.at_ D = .lst acc ∧ acc.length < sizeLine ∧ J (i + 1) (acc ++ [y]) (S3.set D (.lst (acc ++ [y]))) else J (i + 1) acc S2)
    (done : ∀ acc S, J xs.length acc S → Z S) : ∀ (k i : Nat) {acc : List Vl} {S : Sto}, i + k = xs.length → J i acc S → ∃ S', lcN nx t c f D ρ (k + 1) i S = some S' ∧ Z S'
  | 0, i, acc, S, hi, h => by
    unfold lcN
    rw [hn i acc S (by omega) h, List.getElem?_eq_none (by omega)]
    have e : i = xs.length := by omega
    rw [e] at h
    exact ⟨S, rfl, done acc S h⟩
  | k + 1, i, acc, S, hi, h => by
    unfold lcN
    have hx : xs[i]? = some xs[i] := List.getElem?_eq_getElem (by omega)
    obtain ⟨ρ1, h1, q⟩ := step i _ acc S hx h
    rw [hn i acc S (by omega) h, hx]
    simp only
    rw [h1]
    simp only
    cases e2 : c ρ1 S with
    | none => rw [e2] at q; exact q.elim
    | some p =>
      obtain ⟨r, S1⟩ := p
      rw [e2] at q
      cases r with
      | exc _ _ _ => exact q.elim
      | ok b =>
        cases b with
        | false => exact w_lcN xs J hn step done k (i + 1) (by omega) (show J (i + 1) acc S1 from q)
        | true =>
          have q : wpe (f ρ1 S1) _ _ := q
          simp only
          cases e3 : f ρ1 S1 with
          | none => rw [e3] at q; exact q.elim
          | some p3 =>
            obtain ⟨r3, S2⟩ := p3
            rw [e3] at q
            cases r3 with
            | exc _ _ _ => exact q.elim
            | ok y =>
              obtain ⟨q1, q2, q3⟩ := (show S2.at_ D = .lst acc ∧ acc.length < sizeLine ∧ J (i + 1) (acc ++ [y]) (S2.set D (.lst (acc ++ [y]))) from q)
              simp only
              rw [q1]
              simp only
              rw [if_pos q2]
              exact w_lcN xs J hn step done k (i + 1) (by omega) q3
theorem w_lc {fi : En → M Nxt} {t : Tg} {c : En → M Bool} {f : En → M Vl} {vs : List Nat} {ρ : En} {S : Sto} {E : XP} {Z : Vl → Sto → Prop}
    (h : wpe (fi ρ S) E fun nx S1 => ∃ (xs : List Vl) (J : Nat → List Vl → Sto → Prop), J 0 [] (S1.push (.lst [])) ∧ (∀ i acc S, i ≤ xs.length → J i acc S → nx i S = some xs[i]?) ∧
      (∀ i x acc S, xs[i]? = some x → J i acc S → ∃ ρ1, t.run x (wipeE ρ vs) = some ρ1 ∧ wpe (c ρ1 S) noE fun b S2 => if b = true then wpe (f ρ1 S2) noE fun y S3 => S3.at_ S1.n = .lst acc ∧ acc.length < sizeLine ∧ J (i + 1) (acc ++ [y]) (S3.set S1.n (.lst (acc ++ [y]))) else J (i + 1) acc S2) ∧
      ∀ acc S, J xs.length acc S → Z (.ref S1.n) S) : wpe (mLc fi t c f vs ρ S) E Z := by
  unfold mLc
  cases e : fi ρ S with
  | none => rw [e] at h; exact h.elim
  | some p =>
    obtain ⟨r, S1⟩ := p
    rw [e] at h
    cases r with
    | exc c g v => exact h
    | ok nx =>
      obtain ⟨xs, J, h0, hn, step, done⟩ := h
      obtain ⟨S', e1, hz⟩ := w_lcN (Z := fun S' => Z (.ref S1.n) S') xs J hn step (fun acc S q => done acc S q) xs.length 0 (by omega) h0
      have e2 : lim (fun n => lcN nx t c f S1.n (wipeE ρ vs) n 0 (S1.push (.lst []))) = some S' := lim_is e1 (det_of_mono fun n r e m hm => lcN_mono e m hm)
      simp only
      rw [e2]
      exact hz
section
variable {S : Sto} {n : Nat} {xs : List Vl} {ns : List Int} {bs : List Bool} {Z : Vl → Sto → Prop}
theorem getR_l (h : S.at_ n = .lst xs) : getR S n = some xs := by unfold getR; rw [h]
theorem getR_r (h : S.at_ n = .ro xs) : getR S n = some xs := by unfold getR; rw [h]
/-- iteration -/
theorem w_it {f : En → M Vl} {ρ : En} {E : XP} {Z : Nxt → Sto → Prop} : wpe (mIt f ρ S) E Z = wpe (f ρ S) E fun v S1 => (∃ xs, v = .tup xs ∧ Z (nxT xs) S1) ∨ (∃ n xs, v = .ref n ∧ getR S1 n = some xs ∧ Z (nxL n) S1) ∨ ∃ z, v = .str z ∧ Z (nxS z) S1 := by
  unfold mIt
  rw [w_bnd]
  congr 1; funext v S1; apply propext
  cases v with
  | tup xs => exact ⟨fun q => .inl ⟨xs, rfl, q⟩, fun q => by
      rcases q with ⟨_, e, q⟩ | ⟨_, _, e, _⟩ | ⟨_, e, _⟩
      · cases e; exact q
      · cases e
      · cases e⟩
  | str z => exact ⟨fun q => .inr (.inr ⟨z, rfl, q⟩), fun q => by
      rcases q with ⟨_, e, q⟩ | ⟨_, _, e, _⟩ | ⟨_, e, q⟩
      · cases e
      · cases e
      · cases e; exact q⟩
  | ref n =>
    show wpe (match getR S1 n with | some _ => some (.ok (nxL n), S1) | none => none) E Z ↔ _
    cases e : getR S1 n with
    | none => exact ⟨fun q => q.elim, fun q => by
        rcases q with ⟨_, e, q⟩ | ⟨_, _, e1, e2, _⟩ | ⟨_, e, _⟩
        · cases e
        · cases e1; rw [e] at e2; cases e2
        · cases e⟩
    | some xs => exact ⟨fun q => .inr (.inl ⟨n, xs, rfl, e, q⟩), fun q => by
        rcases q with ⟨_, e, q⟩ | ⟨_, _, e1, e2, q⟩ | ⟨_, e, _⟩
        · cases e
        · cases e1; exact q
        · cases e⟩
  | _ => exact ⟨fun q => q.elim, fun q => by
      rcases q with ⟨_, e, q⟩ | ⟨_, _, e, _⟩ | ⟨_, e, _⟩ <;> cases e⟩
theorem nxL_at {i : Nat} (h : getR S n = some xs) : nxL n i S = some xs[i]? := by
  unfold nxL; rw [h]; simp only
  cases xs[i]? <;> rfl
end

theorem w_true {ρ : En} {S : Sto} {E : XP} {Z : Bool → Sto → Prop} : wpe (mTrue ρ S) E Z = Z true S := rfl
theorem take_snoc {α : Type} {l : List α} {i : Nat} {x : α} (h : l[i]? = some x) : l.take (i + 1) = l.take i ++ [x] := by
  rw [List.take_add_one, h]; rfl
/-- [f(x) for x in xs], nothing that stands is changed -/
theorem w_lcmap {fi : En → M Nxt} {t : Tg} {c : En → M Bool} {f : En → M Vl} {vs : List Nat} {ρ : En} {S : Sto} {E : XP} {Z : Vl → Sto → Prop}
    (h : wpe (fi ρ S) E fun nx S1 => ∃ xs ys : List Vl, ys.length = xs.length ∧ xs.length ≤ 1000000 ∧ (∀ (i : Nat) (S2 : Sto), i ≤ xs.length → Gr 0 S1 S2 → nx i S2 = some xs[i]?) ∧
      (∀ (i : Nat) (x y : Vl) (S2 : Sto), xs[i]? = some x → ys[i]? = some y → Gr 0 S1 S2 → ∃ ρ1, t.run x (wipeE ρ vs) = some ρ1 ∧ wpe (c ρ1 S2) noE fun b S3 => b = true ∧ Gr 0 S2 S3 ∧ wpe (f ρ1 S3) noE fun y' S4 => y' = y ∧ Gr 0 S3 S4) ∧
      ∀ S2, Gr 0 S1 S2 → S1.n < S2.n → S2.at_ S1.n = .lst ys → Z (.ref S1.n) S2) : wpe (mLc fi t c f vs ρ S) E Z := by
  refine w_lc (wpe_mono h (fun nx S1 q => ?_) fun _ _ _ _ z => z)
  obtain ⟨xs, ys, hl, hb, hn, step, done⟩ := q
  refine ⟨xs, fun i acc S2 => acc = ys.take i ∧ S2.at_ S1.n = .lst acc ∧ S1.n < S2.n ∧ Gr 0 S1 S2, ⟨rfl, push_same, Nat.lt_succ_self _, Gr.push⟩, fun i acc S2 hi q => hn i S2 hi q.2.2.2, fun i x acc S2 hx q => ?_, fun acc S2 q => ?_⟩
  · obtain ⟨rfl, q1, q2, q3⟩ := q
    have hlt : i < xs.length := by
      rw [List.getElem?_eq_some_iff] at hx; exact hx.1
    have hy : ys[i]? = some ys[i] := List.getElem?_eq_getElem (by omega)
    obtain ⟨ρ1, h1, h2⟩ := step i x _ S2 hx hy q3
    refine ⟨ρ1, h1, wpe_mono h2 (fun b S3 z => ?_) fun _ _ _ _ z => z⟩
    obtain ⟨rfl, g3, h3⟩ := z
    simp only [if_true]
    refine wpe_mono h3 (fun y' S4 z => ?_) fun _ _ _ _ z => z
    obtain ⟨rfl, g4⟩ := z
    have at4 : S4.at_ S1.n = .lst (ys.take i) := by
      rw [g4.at_ _ (Nat.zero_le _) (Nat.lt_of_lt_of_le q2 g3.n), g3.at_ _ (Nat.zero_le _) q2]; exact q1
    refine ⟨at4, ?_, by rw [take_snoc hy], set_same, Nat.lt_of_lt_of_le q2 (Nat.le_trans g3.n g4.n), ((q3.trans g3).trans g4).set_new (Nat.le_refl _)⟩
    rw [List.length_take, show sizeLine = 16777216 from rfl]; omega
  · obtain ⟨rfl, q1, q2, q3⟩ := q
    rw [← hl, List.take_length] at q1
    exact done S2 q3 q2 q1
section
variable {S : Sto} {n : Nat} {xs : List Vl} {Z : Vl → Sto → Prop} {E : XP} {ρ : En}
theorem w_rev {f : En → M Vl} : wpe (mRev f ρ S) E Z = wpe (f ρ S) E fun v S1 => wpo (bRev v S1) Z := by
  unfold mRev; simp only [w_bnd, w_lift]
theorem w_sl {f : En → M Vl} {fl fh : En → M (Option Int)} : wpe (mSl f fl fh ρ S) E Z = wpe (f ρ S) E fun v S1 => wpe (fl ρ S1) E fun lo S2 => wpe (fh ρ S2) E fun hi S3 => wpo (bSl v lo hi S3) Z := by
  unfold mSl; simp only [w_bnd, w_lift]
theorem w_some' {f : En → M Vl} {Z : Option Int → Sto → Prop} : wpe (oSome f ρ S) E Z = wpe (f ρ S) E fun v S1 => ∃ i, v = .int i ∧ Z (some i) S1 := by
  unfold oSome; simp only [w_bnd]
  congr 1; funext v S1; apply propext
  cases v with
  | int i => exact ⟨fun q => ⟨i, rfl, q⟩, fun ⟨j, e, q⟩ => by cases e; exact q⟩
  | _ => exact ⟨fun q => q.elim, fun ⟨j, e, _⟩ => by cases e⟩
theorem w_neg {f : En → M Vl} : wpe (mNeg f ρ S) E Z = wpe (f ρ S) E fun v S1 => ∃ i, v = .int i ∧ Z (.int (-i)) S1 := by
  unfold mNeg; simp only [w_bnd]
  congr 1; funext v S1; apply propext
  cases v with
  | int i => exact ⟨fun q => ⟨i, rfl, q⟩, fun ⟨j, e, q⟩ => by cases e; exact q⟩
  | _ => exact ⟨fun q => q.elim, fun ⟨j, e, _⟩ => by cases e⟩
theorem o_ge {i j : Int} : wpo (bGe (.int i) (.int j) S) Z = Z (.bl (decide (j ≤ i))) S := rfl
end
end Q

set_option linter.all false
set_option maxRecDepth 100000
set_option maxHeartbeats 400000
namespace Q
open PySem PySem.Spec PyProof.Rows L2

/-! ### the draws' state -/
def stD (g c : Nat) (r t : Int) : List (Vl × Vl) := [(.str "great", .ref g), (.str "cells", .ref c), (.str "rest", .int r), (.str "turn", .int t)]
theorem get_great {g c : Nat} {r t : Int} : dGet (stD g c r t) (.str "great") = some (.ref g) := by kernel_rfl
theorem get_cells {g c : Nat} {r t : Int} : dGet (stD g c r t) (.str "cells") = some (.ref c) := by kernel_rfl
theorem get_rest {g c : Nat} {r t : Int} : dGet (stD g c r t) (.str "rest") = some (.int r) := by kernel_rfl
theorem get_turn {g c : Nat} {r t : Int} : dGet (stD g c r t) (.str "turn") = some (.int t) := by kernel_rfl
theorem put_rest {g c : Nat} {r t x : Int} : dPut (stD g c r t) (.str "rest") (.int x) = stD g c x t := by kernel_rfl
theorem put_turn {g c : Nat} {r t x : Int} : dPut (stD g c r t) (.str "turn") (.int x) = stD g c r x := by kernel_rfl
/-- the state at d; its lists at g, c; all below lo; at most T drawn anew -/
structure St (lo d g c T : Nat) (S : Sto) : Prop where
  d_ : ∃ r t : Int, S.at_ d = .dic false (stD g c r t) ∧ 0 ≤ t ∧ t ≤ T
  g_ : ∃ gs : List Int, S.at_ g = .lst (gs.map Vl.int)
  c_ : ∃ cs : List Int, S.at_ c = .lst (cs.map Vl.int)
  dg : d ≠ g
  dc : d ≠ c
  gc : g ≠ c
  dl : d < lo
  gl : g < lo
  cl : c < lo
  ln : lo ≤ S.n
section
variable {lo d g c T T' : Nat} {S S' : Sto}
theorem St.mono (s : St lo d g c T S) (h : T ≤ T') : St lo d g c T' S := by
  obtain ⟨⟨r, t, h1, h2, h3⟩, a, b, e1, e2, e3, e4, e5, e6, e7⟩ := s
  exact ⟨⟨r, t, h1, h2, by omega⟩, a, b, e1, e2, e3, e4, e5, e6, e7⟩
theorem St.gr (s : St lo d g c T S) (h : Gr 0 S S') : St lo d g c T S' := by
  obtain ⟨⟨r, t, h1, h2, h3⟩, ⟨gs, a⟩, ⟨cs, b⟩, e1, e2, e3, e4, e5, e6, e7⟩ := s
  exact ⟨⟨r, t, (h.at_ _ (Nat.zero_le _) (by omega)).trans h1, h2, h3⟩, ⟨gs, (h.at_ _ (Nat.zero_le _) (by omega)).trans a⟩, ⟨cs, (h.at_ _ (Nat.zero_le _) (by omega)).trans b⟩, e1, e2, e3, e4, e5, e6, Nat.le_trans e7 h.n⟩
theorem St.setD (s : St lo d g c T S) {r t : Int} (h1 : 0 ≤ t) (h2 : t ≤ T') : St lo d g c T' (S.set d (.dic false (stD g c r t))) := by
  obtain ⟨_, ⟨gs, a⟩, ⟨cs, b⟩, e1, e2, e3, e4, e5, e6, e7⟩ := s
  exact ⟨⟨r, t, set_same, h1, h2⟩, ⟨gs, (set_ne (Ne.symm e1)).trans a⟩, ⟨cs, (set_ne (Ne.symm e2)).trans b⟩, e1, e2, e3, e4, e5, e6, e7⟩
theorem St.setG (s : St lo d g c T S) {gs : List Int} : St lo d g c T (S.set g (.lst (gs.map Vl.int))) := by
  obtain ⟨⟨r, t, h1, h2, h3⟩, ⟨_, a⟩, ⟨cs, b⟩, e1, e2, e3, e4, e5, e6, e7⟩ := s
  exact ⟨⟨r, t, (set_ne e1).trans h1, h2, h3⟩, ⟨gs, set_same⟩, ⟨cs, (set_ne (Ne.symm e3)).trans b⟩, e1, e2, e3, e4, e5, e6, e7⟩
theorem o_get {k : Str} {r t : Int} {v : Vl} {Z : Vl → Sto → Prop} (h : S.at_ d = .dic false (stD g c r t)) (hv : dGet (stD g c r t) (.str k) = some v) : wpo (bSub' (.ref d) (.str k) S) Z = Z v S := o_key h rfl hv
theorem s_key {f : En → M Vl} {i : Nat} {k : Vl} {ρ : En} {D : End_} : wps (sAsg f (gSb (mSlot i) (mC k)) ρ S) D = wpe (f ρ S) D.ex fun v S1 => ∃ o, ρ[i]? = some (some o) ∧ match bSet o k v S1 with | some S2 => D.nx ρ S2 | none => False := by
  rw [s_asg]
  congr 1; funext v S1; apply propext
  unfold gSb
  cases e : ρ[i]? with
  | none =>
    have e1 : mSlot i ρ S1 = none := by unfold mSlot; rw [e]; rfl
    rw [e1]
    exact ⟨fun q => q.elim, fun ⟨o, e2, _⟩ => by cases e2⟩
  | some x =>
    cases x with
    | none =>
      have e1 : mSlot i ρ S1 = none := by unfold mSlot; rw [e]; rfl
      rw [e1]
      exact ⟨fun q => q.elim, fun ⟨o, e2, _⟩ => by cases e2⟩
    | some o =>
      have e1 : mSlot i ρ S1 = some (.ok o, S1) := by unfold mSlot; rw [e]; rfl
      rw [e1]
      show wpo (match bSet o k v S1 with | some S3 => some (ρ, S3) | none => none) D.nx ↔ _
      cases e2 : bSet o k v S1 with
      | none => exact ⟨fun q => q.elim, fun ⟨o', e3, q⟩ => by cases e3; rw [e2] at q; exact q⟩
      | some S2 => exact ⟨fun q => ⟨o, rfl, by rw [e2]; exact q⟩, fun ⟨o', e3, q⟩ => by cases e3; rw [e2] at q; exact q⟩
theorem set_key {k : Str} {v : Vl} {r t : Int} (h : S.at_ d = .dic false (stD g c r t)) : bSet (.ref d) (.str k) v S = some (S.set d (.dic false (dPut (stD g c r t) (.str k) v))) := by
  show (match S.at_ d with
    | .lst xs => _
    | .dic false kvs => (match keyOf (.str k) with
      | some _ => if kvs.length < sizeLine then some (S.set d (.dic false (dPut kvs (.str k) v))) else none
      | none => none)
    | _ => none) = _
  rw [h]
  rfl
theorem o_pop0 {n : Nat} {x : Vl} {xs : List Vl} {Z : Vl → Sto → Prop} (h : S.at_ n = .lst (x :: xs)) : wpo (mtPopAt (.ref n) [.int 0] S) Z = Z x (S.set n (.lst xs)) := by
  show wpo (match S.at_ n with
    | .lst xs => if -(2 ^ 63) ≤ (0 : Int) ∧ (0 : Int) < 2 ^ 63 then (match seqIndex? 0 xs.length with
      | some k => (match xs[k]? with | some v => some (v, S.set n (.lst (xs.eraseIdx k))) | none => none)
      | none => none) else none
    | _ => none) Z = _
  rw [h]
  have e : seqIndex? 0 (x :: xs).length = some 0 := by
    unfold seqIndex?
    simp
  simp only [e]
  rw [if_pos (by decide)]
  rfl
theorem dat_ints {k lo : Nat} {ns : List Int} : ∀ x ∈ ns.map Vl.int, ∃ d, Dat lo S k x d := fun x hx => by
  obtain ⟨i, _, rfl⟩ := List.mem_map.mp hx
  exact ⟨_, .int i⟩
end

theorem atI_at {α : Type} {xs : List α} {k : Nat} {v : α} (h : xs[k]? = some v) (hk : k < 2 ^ 62) : atI xs (k : Int) = some v := by
  have hl : k < xs.length := by rw [List.getElem?_eq_some_iff] at h; exact h.1
  unfold atI
  have e2 : seqIndex? (k : Int) xs.length = some k := by
    unfold seqIndex?
    have h1 : ¬ ((k : Int) < 0) := by omega
    simp only [h1, if_false]
    have h2 : (decide ((0 : Int) ≤ k) && decide ((k : Int) < xs.length)) = true := by simp; omega
    rw [if_pos h2]; simp
  have hb : -(2 ^ 63) ≤ (k : Int) ∧ (k : Int) < 2 ^ 63 := by constructor <;> omega
  have h9 : xs[k] = v := by rw [List.getElem?_eq_getElem hl] at h; exact Option.some.inj h
  simp [ixN, hb, e2, hl, h9]
theorem o_atl {S : Sto} {n k : Nat} {xs : List Vl} {v : Vl} {Z : Vl → Sto → Prop} (hr : getR S n = some xs) (h : xs[k]? = some v) (hk : k < 2 ^ 62) (hd : getD S n = none) : wpo (bSub' (.ref n) (.int k) S) Z = Z v S := by
  show wpo (match getD S n with
    | some kvs => (match keyOf (.int k) with
      | some _ => (match dGet kvs (.int k) with | some v => some (v, S) | none => none)
      | none => none)
    | none => bIdx (.ref n) (.int k) S) Z = _
  rw [hd]
  show wpo (match getR S n with
      | some xs => match atI xs (k : Int) with
        | some v => some (v, S)
        | none => none
      | none => none) Z = _
  rw [hr]; simp only; rw [atI_at h hk]; rfl
theorem w_pairs0 {ρ : En} {S : Sto} {E : XP} {Z : List (Vl × Vl) → Sto → Prop} : wpe (mPairs [] ρ S) E Z = Z [] S := rfl
theorem w_pairs {fk fv : En → M Vl} {r : List ((En → M Vl) × (En → M Vl))} {ρ : En} {S : Sto} {E : XP} {Z : List (Vl × Vl) → Sto → Prop} :
    wpe (mPairs ((fk, fv) :: r) ρ S) E Z = wpe (fk ρ S) E fun k S1 => wpe (fv ρ S1) E fun v S2 => wpe (mPairs r ρ S2) E fun ps S3 => Z ((k, v) :: ps) S3 := by
  show wpe (bnd (fk ρ) (fun k => bnd (fv ρ) fun v => bnd (mPairs r ρ) fun ps => ret ((k, v) :: ps)) S) E Z = _
  simp only [w_bnd, w_ret]
theorem w_disp {ms : List ((En → M Vl) × (En → M Vl))} {ρ : En} {S : Sto} {E : XP} {Z : Vl → Sto → Prop}
    (h : wpe (mPairs ms ρ (S.push (.dic false []))) E fun ps S2 => S2.at_ S.n = .dic false [] ∧ ps.length ≤ 15 ∧ (ps.all fun p => (keyOf p.1).isSome) = true ∧ Z (.ref S.n) (S2.set S.n (.dic false (mergeD [] ps)))) : wpe (mDisp ms ρ S) E Z := by
  unfold mDisp
  rw [w_bnd]
  refine wpe_mono h (fun ps S2 q => ?_) (fun _ _ _ _ z => z)
  obtain ⟨q1, q2, q3, q4⟩ := q
  rw [w_lift]
  show wpo (match S2.at_ S.n with
    | .dic false [] => if ps.length ≤ 15 ∧ (ps.all fun p => (keyOf p.1).isSome) = true then some (.ref S.n, S2.set S.n (.dic false (mergeD [] ps))) else none
    | _ => none) Z
  rw [q1]
  simp only [if_pos (And.intro q2 q3)]
  exact q4
theorem stD_merge {g c : Nat} {r t : Int} : mergeD [] [(.str "great", .ref g), (.str "cells", .ref c), (.str "rest", .int r), (.str "turn", .int t)] = stD g c r t := by kernel_rfl
end Q

set_option linter.all false
set_option maxRecDepth 100000
set_option maxHeartbeats 400000
namespace Q
open PySem PySem.Spec PyProof.Rows L2

/-! ### wanted ends of the words of QX1 -/
/-- all stands but the object at f -/
structure GrX (f : Nat) (S S' : Sto) : Prop where
  n : S.n ≤ S'.n
  at_ : ∀ k, k < S.n → k ≠ f → S'.at_ k = S.at_ k
section
variable {f : Nat} {S S' S2 : Sto}
theorem GrX.refl : GrX f S S := ⟨Nat.le_refl _, fun _ _ _ => rfl⟩
theorem GrX.trans (a : GrX f S S') (b : GrX f S' S2) : GrX f S S2 := ⟨Nat.le_trans a.n b.n, fun k h1 h2 => (b.at_ k (Nat.lt_of_lt_of_le h1 a.n) h2).trans (a.at_ k h1 h2)⟩
theorem GrX.of (g : Gr 0 S S') : GrX f S S' := ⟨g.n, fun k h _ => g.at_ k (Nat.zero_le _) h⟩
theorem GrX.set {o : Ob} (g : GrX f S S') : GrX f S (S'.set f o) := ⟨g.n, fun k h1 h2 => by rw [set_ne h2]; exact g.at_ k h1 h2⟩
theorem GrX.set_new {k : Nat} {o : Ob} (g : GrX f S S') (h : S.n ≤ k) : GrX f S (S'.set k o) := ⟨g.n, fun j h1 h2 => by rw [set_ne (by omega)]; exact g.at_ j h1 h2⟩
end
end Q

set_option linter.all false
set_option maxRecDepth 100000
set_option maxHeartbeats 3200000
namespace Q
open PySem PySem.Spec PyProof.Rows L2

end Q

set_option linter.all false
set_option maxRecDepth 100000
set_option maxHeartbeats 400000
namespace Q
open PySem PySem.Spec PyProof.Rows L2

/-! ### a dict of the module with texts as keys, that is only read -/
def hasK (tab : List (Str × Vl)) (z : Str) : Bool := tab.any fun q => q.1 == z
structure DCst (K : PySem.W.Frag) (w : World) (mg : Str → Option Value) (x : Str) (tab : List (Str × Vl)) : Prop where
  ex : ∃ (d : Addr) (es : Array DictEntry) (n : Nat), mg x = some (.ref d) ∧ KDict K w d es n ∧ (∀ q ∈ tab, ∃ u y, PySem.W.nsIn K d q.1 = some (some u) ∧ RelV y u ∧ ∀ H μ N, Rp K mg H μ N q.2 y) ∧ ∀ z, hasK tab z = false → PySem.W.nsIn K d z = some none
section
variable {X : Cx} {T : Tb} {W : WX} {pos p : Pos} {x : Str} {tab : List (Str × Vl)}
theorem DCst.at_ {K : PySem.W.Frag} {w : World} {mg : Str → Option Value} (D : DCst K w mg x tab) : ∃ (d : Addr) (es : Array DictEntry) (n : Nat), mg x = some (.ref d) ∧ KDict K w d es n ∧ ∀ z, ∃ r, PySem.W.nsIn K d z = some r ∧ r.isSome = hasK tab z ∧ ∀ q, tab.find? (fun q => q.1 == z) = some q → ∃ u y, r = some u ∧ RelV y u ∧ ∀ H μ N, Rp K mg H μ N q.2 y := by
  obtain ⟨d, es, n, h1, h2, h3, h4⟩ := D.ex
  refine ⟨d, es, n, h1, h2, fun z => ?_⟩
  cases e : hasK tab z with
  | false =>
    refine ⟨none, h4 z e, rfl, fun q hq => ?_⟩
    have a := List.mem_of_find?_eq_some hq
    have b := List.find?_some hq
    have : hasK tab z = true := List.any_eq_true.mpr ⟨q, a, b⟩
    rw [e] at this; cases this
  | true =>
    obtain ⟨q, hq, hz⟩ := List.any_eq_true.mp e
    have hz := beq_iff_eq.mp hz
    obtain ⟨u, y, k1, _, _⟩ := h3 q hq
    rw [hz] at k1
    refine ⟨some u, k1, rfl, fun q2 hq2 => ?_⟩
    obtain ⟨u2, y2, j1, j2, j3⟩ := h3 q2 (List.mem_of_find?_eq_some hq2)
    have hz2 : q2.1 = z := by simpa using List.find?_some hq2
    rw [hz2, k1] at j1
    cases j1
    exact ⟨u, y2, rfl, j2, j3⟩
end
end Q

set_option linter.all false
set_option maxRecDepth 100000
set_option maxHeartbeats 400000
namespace Q
open PySem PySem.Spec PyProof.Rows L2

end Q

set_option linter.all false
set_option maxRecDepth 100000
set_option maxHeartbeats 400000
namespace Q
open PySem PySem.Spec PyProof.Rows L2

end Q

set_option linter.all false
set_option maxRecDepth 100000
set_option maxHeartbeats 800000
namespace Q
open PySem PySem.Spec PyProof.Rows L2

/-- the function object of a lambda at f -/
def LamO (q : Str) (params : Arguments) (body : Expr) (scope : Scope) (cl : List (Str × Addr)) (pm : Value) (c' : Addr) (ctv : Value) (f : Addr) : HO := .ext fun h => h.get? f = some (PySem.W.kla_obj "<lambda>" q params body scope cl pm c' ctv)
structure Lm where
  params : Arguments
  body : Expr
  scope : Scope
  pos : Pos
abbrev Lm.e (l : Lm) : Expr := .Lambda l.params l.body l.scope l.pos
def LamAt (X : Cx) (H : Hp) (f : Addr) (l : Lm) : Prop := ∃ (c' : Addr) (pm ctv : Value), H f = some (LamO (X.env.qual ++ "<lambda>") l.params l.body l.scope (cloFrom X.env.cells l.scope.names []) pm c' ctv f) ∧ H c' = some (LamX.CodeO c' (X.env.qual ++ "<lambda>"))
theorem LamAt.ext {X : Cx} {H H' : Hp} {f : Addr} {l : Lm} (h : LamAt X H f l) (k : ∀ b φ, H b = some (.ext φ) → H' b = some (.ext φ)) : LamAt X H' f l := by
  obtain ⟨c', pm, ctv, h1, h2⟩ := h
  exact ⟨c', pm, ctv, k _ _ h1, k _ _ h2⟩
/-- the lambdas of a list -/
def LamsAt (X : Cx) (H : Hp) : List Lm → List Addr → Prop
  | [], [] => True
  | l :: ls, f :: fs => LamAt X H f l ∧ LamsAt X H ls fs
  | _, _ => False
theorem LamsAt.ext {X : Cx} {H H' : Hp} (k : ∀ b φ, H b = some (.ext φ) → H' b = some (.ext φ)) : ∀ {ls : List Lm} {fs : List Addr}, LamsAt X H ls fs → LamsAt X H' ls fs
  | [], [], _ => trivial
  | _ :: _, _ :: _, h => ⟨h.1.ext k, LamsAt.ext k h.2⟩
theorem LamsAt.len {X : Cx} {H : Hp} : ∀ {ls : List Lm} {fs : List Addr}, LamsAt X H ls fs → fs.length = ls.length
  | [], [], _ => rfl
  | _ :: _, _ :: _, h => by rw [List.length_cons, List.length_cons, LamsAt.len h.2]
/-! the call of the one that the slot i holds -/
/-! its outcome, judged -/
section
variable {K : PySem.W.Frag} {mg : Str → Option Value} {T : Tb} {H H' : Hp} {μ : Nat → Addr} {N : Nat}
section
variable {X : Cx} {f : Addr} {l : Lm} (la : LamAt X H f l)
include la
end
end
end Q

set_option linter.all false
set_option maxRecDepth 100000
set_option maxHeartbeats 800000
namespace Q
open PySem PySem.Spec PySem.Calls PyProof.Rows L2

/-! ### sorted of tuples of whole numbers, the first of them empty -/
end Q

set_option linter.all false
set_option maxRecDepth 100000
set_option maxHeartbeats 800000
namespace Q
open PySem PySem.Spec PyProof.Rows L2

end Q

set_option linter.all false
set_option maxRecDepth 100000
set_option maxHeartbeats 1000000
namespace Q
open PySem PySem.Spec PyProof.Rows L2

/-! ### an own exception whose __init__ keeps what it is handed -/
section
variable {X : Cx} {e : Expr} {es : List Expr} {ta : TA} {x : Str} {C : Addr} {mc : Value} {p1 p2 pos : Pos}
/-- B.__init__(self, ..), B an own class over ValueError -/
theorem pe_bainit {pl : Sem Bool} (hg : Gl X x) (hm : X.mg x = some (.ref C)) (rd : PySem.W.readsIn X.K C mc = true) (ga : PySem.W.specialIn X.K (.ref C) "__getattribute__" = some (some (.builtin "type.__getattribute__")))
    (vV : PySem.W.findCls X.K (.ref C) mc "__init__" = some (.val (.builtin "ValueError.__init__"))) (ha : PA X (e :: es) ta) (hdb : (x == ("__debug__" : Str)) = false := by decide)
    (hc : eval (.Call (.Attribute (.Name x p1) "__init__" p2) (e :: es) [] pos) X.env = (do
      let ov ← eval (.Name x p1) X.env
      standAt p2.atName
      let (f, first) ← holding [ov] (getMethod ov "__init__" pl)
      callWith pos f first (backTo pos (starEach (e :: es) X.env)) (backToKw pos (keywordEach [] X.env))) := by rfl)
    (he : starEach (e :: es) X.env = (false, eval e X.env) :: starEach es X.env := by rfl) (hpl : (backTo pos (starEach es X.env)).any (·.1) = false := by rfl) :
    PE X (.Call (.Attribute (.Name x p1) "__init__" p2) (e :: es) [] pos) (tVeI X.K ta) := by
  refine ⟨fun pins s σ H Q I h => ?_⟩
  refine PySem.W.methodCall_KW (ld_glob I hg hm ?_ hdb) hc
  refine PySem.W.method_cls I.kIn ga (PySem.W.cls_value I.kIn rd vV (by rfl) ?_)
  show wpAny _ _ (callWith pos (Value.builtin "ValueError.__init__") [] (backTo pos (starEach (e :: es) X.env)) []) _ _ _
  refine PyProof.Rows.callWith_method1 (thn (ha.run pos pins _ σ H _ (I.tok _) h) fun us s1 ⟨vs, H1, I1, r1, a, C, ws, ev, hl, T, ea, q⟩ => ?_) he hpl
  subst ev
  cases r1 with
  | @cons _ u0 _ ur ra rw' =>
    obtain rfl : u0 = Value.ref a := ra
    have hlen : ur.length ≤ sizeLine := by
      rw [← Paired.length rw', sizeLine_eq]
      omega
    exact oinit_ok T I1 ea hlen fun s' J => ⟨.non, H1, J, rfl, q⟩
end
/-- what is handed to such an exception -/
def fmV : V → Prop
  | .int i => i.natAbs.log2 < 1920
  | .str y => y.length ≤ sizeLine
  | .non => True
  | _ => False
/-- {x}: a text, an int or None, as a text -/
def tFmtN (te : TE) : TE := fun σ H Q => te σ H fun x H1 => (∃ y : Str, x = .str y ∧ y.length ≤ sizeLine ∧ Q (.str y) H1) ∨ (∃ i : Int, x = .int i ∧ i.natAbs.log2 < 1920 ∧ Q (.str (toString i)) H1) ∨ (x = .non ∧ Q (.str "None") H1)
theorem pe_fmtN {X : Cx} {e : Expr} {te : TE} {pos : Pos} (he : PE X e te) : PE X (.FormattedValue e (-1) none pos) (tFmtN te) := by
  refine ⟨fun pins s σ H Q I h => ?_⟩
  refine wpAny_FormattedValue_plain (thn (he.run pins s σ H _ I h) fun v s1 ⟨x, H1, I1, r1, q⟩ => ?_)
  rcases q with ⟨y, rfl, hz, q⟩ | ⟨i, rfl, hz, q⟩ | ⟨rfl, q⟩
  · obtain ⟨tk, rfl⟩ := r1
    exact wpAny_formatField_str ⟨.str y, H1, I1, ⟨tk, rfl⟩, q⟩ ⟨.str y, H1, I1.tok _, ⟨_, rfl⟩, q⟩ hz
  · obtain ⟨tk, rfl⟩ := r1
    exact wpAny_formatField_int hz ⟨.str (toString i), H1, I1.tok _, ⟨_, rfl⟩, q⟩
  · obtain rfl : v = Value.none := r1
    exact wpAny_formatField_none ⟨.str "None", H1, I1.tok _, ⟨_, rfl⟩, q⟩
/-- what its __init__ does -/
def spI (f : Str) : Sp := fun vs H Q _ => ∃ (a C : Addr) (v : V), vs = [.ref a, v] ∧ H a = some (exo a C none) ∧ fmV v ∧ ∀ dx, H dx = none → dx ≠ a → Q .non (upd (upd H dx (exd dx [(f, v)])) a (exo a C (some dx)))
/-- the class c keeps what it is handed as f -/
structure ExcI (P : Program) (w : World) (K : PySem.W.Frag) (mg : Str → Option Value) (base : Heap) (c f : Str) : Prop where
  ex : ∃ (C fI : Addr) (fd : FuncData) (ps : List Str), mg c = some (.ref C) ∧ OexC K C ∧ PySem.W.findIn K (.ref C) "__init__" = some (some (.ref fI)) ∧ PySem.W.typeIn K (.ref fI) = some (.type "function") ∧
    PySem.W.findIn K (.ref C) f = some none ∧ FnOk P w K mg base C8.CX0 1 fI fd ps (fun vs H Q E => spI f vs H Q E ∧ ∀ a C' v, vs = [.ref a, v] → H a = some (exo a C' none) → C' = C) ∧ L2.Binds K fd ps [] ∧ (∀ x u : Value, bindArgs fd ⟨[x], [(f, u)]⟩ = pure (ps.zip [x, u]))
theorem exo_inj {a C D : Addr} {d : Option Addr} (h : exo a C d = exo a D d) : C = D := by
  have h1 := HO.ext.inj h
  have h2 := congrFun h1 { objs := Array.replicate (a + 1) ({ cls := .ref C, dict := d, data := .fields #[.ref 0, .none, .none, .none, .bool false, .none] } : Obj) }
  have h3 : ({ objs := Array.replicate (a + 1) ({ cls := .ref C, dict := d, data := .fields #[.ref 0, .none, .none, .none, .bool false, .none] } : Obj) } : Heap).get? a = some ({ cls := .ref C, dict := d, data := .fields #[.ref 0, .none, .none, .none, .bool false, .none] } : Obj) := by
    unfold Heap.get?
    simp only [Array.getElem?_replicate, Nat.lt_succ_self, if_true]
  have h4 := cast h2 ⟨0, h3⟩
  obtain ⟨t1, e1⟩ := h4
  rw [h3] at e1
  cases e1
  rfl
section
variable {P : Program} {w : World} {K : PySem.W.Frag} {mg : Str → Option Value} {base : Heap}
theorem init_ok {name qual sl a f B : Str} {params : Arguments} {body : List Stmt} {scope : Scope} {dV kV doc pm cdv ct oc : Value} {an od : Option Addr} {osl : Array (Option Value)} {fI C CB : Addr} {mc : Value} {p1 p2 p3 p4 p5 p6 p7 p8 p9 p10 p11 p12 : Pos}
    (hb : body = [.Expr (.Call (.Attribute (.Name B p1) "__init__" p2) [.Name sl p3, .JoinedStr [.FormattedValue (.Name a p4) (-1) none p5] p6] [] p7) p8, .Assign [.Attribute (.Name sl p9) f p10] (.Name a p11) p12])
    (lk : K.lookup fI = some ⟨oc, od, .func (PySem.W.fnOf name qual params body scope dV kV doc pm an cdv ct), osl⟩) (hcd : PySem.W.codeIn K cdv qual = true) (Sc : FnScope [sl, a] [sl, a] scope)
    (hs : scope.names.lookup sl = some .local) (ha : scope.names.lookup a = some .local) (hB : scope.names.lookup B = some .globalImplicit) (hm : mg B = some (.ref CB)) (rd : PySem.W.readsIn K CB mc = true) (ga : PySem.W.specialIn K (.ref CB) "__getattribute__" = some (some (.builtin "type.__getattribute__")))
    (vV : PySem.W.findCls K (.ref CB) mc "__init__" = some (.val (.builtin "ValueError.__init__"))) (T : OexC K C) (hno : PySem.W.findIn K (.ref C) f = some none)
    (d1 : (sl == ("__debug__" : Str)) = false) (d2 : (sl == ("__classdict__" : Str)) = false) (d3 : (a == ("__debug__" : Str)) = false) (d4 : (a == ("__classdict__" : Str)) = false) (d5 : (B == ("__debug__" : Str)) = false)
    {pl : Env → Sem Bool} (hc : ∀ env : Env, eval (.Call (.Attribute (.Name B p1) "__init__" p2) [.Name sl p3, .JoinedStr [.FormattedValue (.Name a p4) (-1) none p5] p6] [] p7) env = (do
      let ov ← eval (.Name B p1) env
      standAt p2.atName
      let (f, first) ← holding [ov] (getMethod ov "__init__" (pl env))
      callWith p7 f first (backTo p7 (starEach [.Name sl p3, .JoinedStr [.FormattedValue (.Name a p4) (-1) none p5] p6] env)) (backToKw p7 (keywordEach [] env)))) :
    FnOk P w K mg base C8.CX0 1 fI (PySem.W.fnOf name qual params body scope dV kV doc pm an cdv ct) [sl, a] (fun vs H Q E => spI f vs H Q E ∧ ∀ x C' v, vs = [.ref x, v] → H x = some (exo x C' none) → C' = C) := by
  subst hb
  refine fn_of lk hcd Sc (fun vs H Q E h => ?_) fun A outer s H vs Q E hr h => ?_
  · obtain ⟨⟨x, C', v, rfl, _⟩, _⟩ := h; rfl
  · obtain ⟨⟨x, C', v, rfl, hx, hv, hq⟩, hC⟩ := h
    obtain rfl := hC x C' v rfl hx
    refine ⟨_, pss_cons (ps_expr (pe_bainit (mc := mc) hB hm rd ga vV (pa_cons (pe_var (i := 0) rfl (.inl hs) d1 d2) (pa_cons (pe_joined1 (pe_fmtN (pe_var (i := 1) rfl (.inl ha) d3 d4))) pa_nil)) d5 (hc _))) (pss_one (ps_ost (pe_var (i := 0) rfl (.inl hs) d1 d2) (pe_var (i := 1) rfl (.inl ha) d3 d4))), ?_⟩
    have s0 : (L2.start [sl, a] [V.ref x, v])[0]? = some (some (V.ref x)) := rfl
    have s1 : (L2.start [sl, a] [V.ref x, v])[1]? = some (some v) := rfl
    refine ⟨_, s0, ?_⟩
    cases v with
    | int i => exact ⟨_, s1, .inr (.inl ⟨i, rfl, hv, x, C', [.str (toString i)], rfl, (by show 1 ≤ 1000; decide), T, hx, _, s1, _, s0, x, C', rfl, T, hno, .inl ⟨hx, hq⟩⟩)⟩
    | non => exact ⟨_, s1, .inr (.inr ⟨rfl, x, C', [.str "None"], rfl, (by show 1 ≤ 1000; decide), T, hx, _, s1, _, s0, x, C', rfl, T, hno, .inl ⟨hx, hq⟩⟩)⟩
    | str y => exact ⟨_, s1, .inl ⟨y, rfl, hv, x, C', [.str y], rfl, (by show 1 ≤ 1000; decide), T, hx, _, s1, _, s0, x, C', rfl, T, hno, .inl ⟨hx, hq⟩⟩⟩
    | _ => exact (show False from hv).elim
end
/-! ### it is made, and raised -/
section
variable {X : Cx} {o e : Expr} {es : List Expr} {ta : TA} {p pos : Pos}
theorem mk_endQ {pins : List (Addr × Obj)} {σ : L2.St} {H1 H2 : Hp} {Q : XK} {hp hp2 h2 : Heap} {g1 g2 : Array GenState} {d1 d2 : Drawn} {t1 t2 : Nat} {os1 os2 : OsState} {a C d : Addr} {fs : List (Str × V)} (T : Raises X (.ref C)) (I1 : Inv X pins σ H1 ⟨hp, g1, d1, t1, os1⟩)
    (ha : hp.objs.size ≤ a) (k : ∀ b o, hp.get? b = some o → hp2.get? b = some o) (un : Un (frs X.stack) [] (upd H1 a (exo a C none)) H2 hp2 h2) (hok : HOk X.prog X.w H2 h2) (ho : os2 = os1) (hb : AllBare g2)
    (ea : H2 a = some (exo a C (some d))) (ed : H2 d = some (exd d fs)) (q : Q (.ref C) (some d) (del H2 a)) : MkP X pins σ Q (.ref a) ⟨h2, g2, d2, t2, os2⟩ := by
  obtain ⟨t0, hoe⟩ := exo_at hok ea
  have hn : H1 a = none := I1.hok.fresh ha
  obtain ⟨G, g1', g2'⟩ := restrict h2 fun b => decide (b ≠ a)
  have gk : ∀ b, b ≠ a → G.get? b = h2.get? b := fun b hb => g1' b (decide_eq_true hb)
  have ge : G.get? a = none := g2' a (by simp)
  have nha : ∀ {b : Addr} {o : Obj}, hp.get? b = some o → b ≠ a := fun {b o} z => Nat.ne_of_lt (Nat.lt_of_lt_of_le (Heap.lt_size z) ha)
  have up : ∀ {b : Addr}, b ≠ a → H1 b = none → upd H1 a (exo a C none) b = none := fun {b} hb n => by rw [upd_ne hb]; exact n
  have U : Un (frs X.stack) [] H1 (del H2 a) hp G := {
    keep := fun b o z n hf hx => by
      rw [gk b (nha z)]
      exact un.keep b o (k b o z) (up (nha z) n) hf hx
    slot := fun b o z n hf hx => by
      rw [gk b (nha z)]
      exact un.slot b o (k b o z) (up (nha z) n) hf hx
    free := fun b o z n hx => by
      rw [del_ne (nha z)]
      exact un.free b o (k b o z) (up (nha z) n) hx
    there := fun b o z hx => by
      rw [gk b (nha z)]
      exact un.there b o (k b o z) hx
    tups := fun b xs z => by
      rw [del_ne (ne_of_none z hn)]
      exact un.tups b xs (by rw [upd_ne (ne_of_none z hn)]; exact z)
    frzs := fun b o v z => by
      rw [del_ne (ne_of_none z hn)]
      exact un.frzs b o v (by rw [upd_ne (ne_of_none z hn)]; exact z)
    tbls := fun b ps z => by
      rw [del_ne (ne_of_none z hn)]
      exact un.tbls b ps (by rw [upd_ne (ne_of_none z hn)]; exact z) }
  have hok3 : HOk X.prog X.w (del H2 a) G := fun b o z => by
    have hba : b ≠ a := fun e => by
      rw [e, del_same] at z
      cases z
    rw [del_ne hba] at z
    have noa : ∀ {c : Addr}, H2 c = some (.own b) → c ≠ a := fun {c} hc => at_ne ea hc exo_own
    exact (hok b o z).stay (fun c v hc y => by
        have hca : c ≠ a := by
          rcases hc with hc | hc
          · rw [hc]
            exact hba
          · exact noa hc
        rw [gk c hca]
        exact y)
      (fun c hc => by rw [del_ne (noa hc)]; exact hc) (fun c xs hc => by rw [del_ne (at_ne ea hc exo_tup)]; exact hc)
  have J : Inv X pins σ (del H2 a) ⟨G, g2, d2, t2, os2⟩ := I1.call' (ch := []) ho U hok3 hb (fun b z => absurd z (by simp))
  refine ⟨a, _, _, ⟨G, g2, d2, t2, os2⟩, _, .ref C, some d, rfl, J, fun b o z => ?_, ge, hoe, ⟨rfl, rfl⟩, rfl, rfl, del_same, rfl, hb, T, q⟩
  by_cases hba : b = a
  · rw [hba, ge] at z
    cases z
  · exact (gk b hba).symm.trans z
/-- C(e) -/
theorem pmk_init {c f : Str} (E : ExcI X.prog X.w X.K X.mg X.base c f) (hr : Room 2 X.A) (hg : Gl X c) (ha : PA X (e :: es) ta)
    (hdb : (c == ("__debug__" : Str)) = false := by decide) (he : starEach (e :: es) X.env = (false, eval e X.env) :: starEach es X.env := by rfl) (hpl : (backTo pos (starEach es X.env)).any (·.1) = false := by rfl) :
    PMk X (.Call (.Name c p) (e :: es) [] pos) (fun σ H Q => ta σ H fun vs H1 => ∃ v, vs = [v] ∧ fmV v ∧ ∀ (C dx : Addr), X.mg c = some (.ref C) → H1 dx = none → Q (.ref C) (some dx) (upd H1 dx (exd dx [(f, v)]))) := by
  intro pins s σ H Q I h
  obtain ⟨C, fI, fd, ps, hm, T, iC, tI, hno, F1, hb, _⟩ := E.ex
  obtain ⟨nm, q, N, bs, bm, sn, sub, ab, col, dd, k0, k1, k2, k3, k5, hC, hbm⟩ := T.cls
  refine wpAny_Call_Name_kw (ld_glob I hg hm ?_ hdb)
  refine PySem.W.callWith_K (h₀ := X.base) I.ok.mod.kin T.kC (thn (ha.run pos pins s σ H _ I h) fun us s1 ⟨vs, H1, I1, r1, v, ev, hv, q1⟩ => ⟨I1.kIn, ?_⟩) he hpl
  subst ev
  show wpAny _ _ (call (.ref C) us) _ _ _
  obtain ⟨hp, g, dr, tk, os⟩ := s1
  have hsz : hp.objs.size ≤ hp.objs.size + 1 := Nat.le_succ _
  have hn : H1 (hp.objs.size + 1) = none := I1.hok.fresh hsz
  have hq : (fun vs H Q (_ : XK) => spI f vs H Q C8.E0 ∧ ∀ a C' v, vs = [.ref a, v] → H a = some (exo a C' none) → C' = C) [.ref (hp.objs.size + 1), v] (upd H1 (hp.objs.size + 1) (exo (hp.objs.size + 1) C none))
      (fun v' H2 => v' = .non ∧ ∃ (d : Addr), H2 (hp.objs.size + 1) = some (exo (hp.objs.size + 1) C (some d)) ∧ H2 d = some (exd d [(f, v)]) ∧ Q (.ref C) (some d) (del H2 (hp.objs.size + 1))) C8.E0 := by
    refine ⟨⟨_, C, v, rfl, upd_same, hv, fun dx h1 h2 => ⟨rfl, dx, upd_same, by rw [upd_ne h2, upd_same], ?_⟩⟩, fun a C' v' e1 e2 => ?_⟩
    · rw [upd_ne h2] at h1
      have e2 : del (upd (upd (upd H1 (hp.objs.size + 1) (exo (hp.objs.size + 1) C none)) dx (exd dx [(f, v)])) (hp.objs.size + 1) (exo (hp.objs.size + 1) C (some dx))) (hp.objs.size + 1) = upd H1 dx (exd dx [(f, v)]) := by
        funext b
        by_cases hb1 : b = hp.objs.size + 1
        · rw [hb1, del_same, upd_ne (Ne.symm h2)]; exact hn.symm
        · rw [del_ne hb1, upd_ne hb1]
          by_cases hb2 : b = dx
          · rw [hb2, upd_same, upd_same]
          · rw [upd_ne hb2, upd_ne hb2, upd_ne hb1]
      rw [e2]
      exact q1 C dx hm h1
    · simp only [List.cons.injEq, V.ref.injEq] at e1
      rw [← e1.1, upd_same] at e2
      exact (exo_inj (Option.some.inj e2)).symm
  have kk : ∀ b o, hp.get? b = some o → ((hp.push (PySem.W.kdv_tup us)).push (PySem.HandSPX.excO C hp.objs.size)).get? b = some o := fun b o e => Heap.get?_push_of_some _ (Heap.get?_push_of_some _ e)
  have hget : ((hp.push (PySem.W.kdv_tup us)).push (PySem.HandSPX.excO C hp.objs.size)).get? (hp.objs.size + 1) = some (PySem.HandSPX.excO C hp.objs.size) := by heap_get
  have I2 : Inv X pins σ (upd H1 (hp.objs.size + 1) (exo (hp.objs.size + 1) C none)) ⟨(hp.push (PySem.W.kdv_tup us)).push (PySem.HandSPX.excO C hp.objs.size), g, dr, tk, os⟩ :=
    I1.laid (t' := tk) (a := hp.objs.size + 1) (o := exo (hp.objs.size + 1) C none) (h' := (hp.push (PySem.W.kdv_tup us)).push (PySem.HandSPX.excO C hp.objs.size)) kk hsz (exo_ok hget)
  have r2 : Vals [V.ref (hp.objs.size + 1), v] (Value.ref (hp.objs.size + 1) :: us) := .cons rfl r1
  have hl : (Value.ref (hp.objs.size + 1) :: us ++ []).length = ps.length := by
    have e := r2.length
    rw [F1.len _ _ _ _ hq] at e
    rw [List.append_nil]
    exact e.symm
  have hus : us.length ≤ sizeLine := by
    rw [← Paired.length r1, sizeLine_eq]
    show 1 ≤ _
    omega
  have hbi := hb _ (Value.ref (hp.objs.size + 1) :: us) I2.kIn hl
  rw [List.append_nil] at hbi
  refine wpAny_call (PySem.HandSPX.call_own PySem.F.excBase_ValueError (fun Y => PySem.HandSPX.refsVE_contains Y bm hbm) (I1.kIn _ _ hC) (PySem.W.looks_findIn I1.kIn iC) (fun self => PySem.W.bind_fn I1.kIn self tI) hus
    (codeAny_mono (F1.run _ X.stack _ _ ⟨Value.ref (hp.objs.size + 1) :: us, []⟩ (Value.ref (hp.objs.size + 1) :: us) _ _ C8.E0 (hr.make C us []) (I2.env0.make C us []) hbi r2 hq) fun r s' hq' => ?_))
  cases r with
  | error er => exact (show False from hq').elim
  | ok fl =>
    cases fl with
    | ret u =>
      obtain ⟨v', H2, os2, bare2, un2, hok2, rv, ev, d, ea, ed, q2⟩ := hq'
      subst ev
      obtain ⟨h2, g2, d2, t2, os'⟩ := s'
      exact ⟨rv, mk_endQ (raises_own T.exC T.tyC) I1 hsz kk un2 hok2 os2 bare2 ea ed q2⟩
    | next => exact False.elim hq'
    | brk => exact False.elim hq'
    | cont => exact False.elim hq'
end
def fmOk : Vl → Bool
  | .int i => decide (i.natAbs.log2 < 1920)
  | .str y => decide (y.length ≤ sizeLine)
  | .non => true
  | _ => false
end Q

set_option linter.all false
set_option maxRecDepth 100000
set_option maxHeartbeats 1000000
namespace Q
open PySem PySem.Spec PyProof.Rows L2

/-! ### a field of an exception -/
def mXf (c f : Str) (fe : En → M Vl) : En → M Vl := fun ρ => bnd (fe ρ) fun v S => match v with
  | .exc c' g w => if c' = c ∧ g = f then some (.ok w, S) else none
  | _ => none
section
variable {X : Cx} {T : Tb} {W : WX} {pos : Pos}
theorem se_xf {c f : Str} {e : Expr} {fe : En → M Vl} (E : ExcI X.prog X.w X.K X.mg X.base c f) (hC : ∀ C, X.mg c = some (.ref C) → ExcC X.K C) (hf : f ≠ "") (he : SE X T W e fe) (hb : attributeBase e f X.env (eval e X.env) = eval e X.env := by rfl) :
    SE X T W (.Attribute e f pos) (mXf c f fe) := by
  obtain ⟨C, fI, fd, ps, hm, _, _, _, hno, _⟩ := E.ex
  refine ⟨fun pins s σ H Q I h => ?_⟩
  obtain ⟨ρ, μ, S, sr, er, h⟩ := h
  have h' : tOf X.K X.mg T W fe σ H (fun x H1 => ∃ (a dd : Addr) (w : V), x = .ref a ∧ H1 a = some (excO a (.ref C) (some dd)) ∧ H1 dd = some (exd dd [(f, w)]) ∧ Q w H1) := by
    refine ⟨ρ, μ, S, sr, er, Pst.bnd_ h fun v S1 H1 μ1 x e1 sr1 rx h1 => ?_⟩
    cases v with
    | exc c' g w' =>
      by_cases hcg : c' = c ∧ g = f
      · simp only at h1
        rw [if_pos hcg] at h1
        obtain ⟨rfl, rfl⟩ := hcg
        cases rx with
        | exc _ _ _ => exact absurd rfl hf
        | @excF _ _ a C' dd v w h0 h2 h3 h4 r =>
          rw [hm] at h2
          cases h2
          exact ⟨a, dd, w, rfl, h3, h4, Pst.here h1 sr1 r⟩
      · simp only at h1
        rw [if_neg hcg] at h1; exact h1.elim
    | _ => exact h1.elim
  refine attr_of hb (thn (he.run pins s σ H _ I h') fun u s1 ⟨x, H1, I1, rx, a, dd, w, ex, h3, h4, q⟩ => ?_)
  subst ex
  obtain rfl : u = Value.ref a := rx
  have EC := hC C hm
  obtain ⟨⟨oe, vs, hoe, hz, hdd⟩, _, _⟩ := I1.hok a _ h3
  obtain ⟨mA, hns, hr⟩ := exd_at I1.hok h4
  obtain ⟨od, ho, hl⟩ := lookIn_ns hns
  obtain ⟨u', hu, ru⟩ := RelO.some_of (v := w) (o := mA f) (by have := hr f; rwa [show List.lookup f [(f, w)] = some w from by simp [List.lookup]] at this)
  have J : PySem.W.InstAt s1.heap a oe C (some od) := ⟨hoe, hz.1, by unfold PySem.W.notCls; rw [hdd] <;> rfl, by rw [hz.2]; exact ho⟩
  exact HandSPX.exc_get I1.kIn J EC.hg EC.hk EC.hs (PySem.W.findObj_own EC.hd hno rfl (by rw [hl, hu])) (handed_of ru) ⟨w, H1, I1.tok _, ru, q⟩
end
theorem w_xf {c f : Str} {fe : En → M Vl} {ρ : En} {S : Sto} {E : XP} {Z : Vl → Sto → Prop} (h : wpe (fe ρ S) E fun v S1 => ∃ w, v = .exc c f w ∧ Z w S1) : wpe (mXf c f fe ρ S) E Z := by
  unfold mXf
  rw [w_bnd]
  refine wpe_mono h ?_ (fun _ _ _ _ z => z)
  rintro _ S1 ⟨w, rfl, z⟩
  show wpe (if c = c ∧ f = f then _ else none) E Z
  rw [if_pos ⟨rfl, rfl⟩]
  exact z
end Q

set_option linter.all false
set_option maxRecDepth 100000
set_option maxHeartbeats 1000000
namespace Q
open PySem PySem.Spec PyProof.Rows L2

/-! ### methods, out of the head's facts -/
/-- the i-th statement of a class's body -/
def clsAt (s : Stmt) (i : Nat) : Stmt := match s with
  | .ClassDef _ _ _ body _ _ _ _ _ _ _ => (body[i]?).getD s
  | _ => s
/-- a method without defaults, as the head tells it -/
def mdOf (c m q : Str) (st : Stmt) : He.DefD := ⟨(c, some m), m, q, defArgs st, defBody st, defScope st, [], []⟩
structure FDm (K : PySem.W.Frag) (c m q : Str) (st : Stmt) (fd : FuncData) (cdv : Value) : Prop where
  ex : ∃ (oc : Value) (od : Option Addr) (kV doc pm : Value) (an : Option Addr) (ct : Value) (osl : Array (Option Value)),
    fd = PySem.W.fnOf m q (defArgs st) (defBody st) (defScope st) .none kV doc pm an cdv ct ∧ K.lookup (He.ma K (He.ga K c) m) = some ⟨oc, od, .func fd, osl⟩ ∧ PySem.W.codeIn K cdv q = true
  kp : PySem.W.keepIn K (.ref (He.ma K (He.ga K c) m)) = true
theorem fdm_of {K : PySem.W.Frag} {fa : List He.Fa} {fn : List He.DefD} (c : He.SaysD fa fn K) {x m q : Str} {st : Stmt} (hx : mdOf x m q st ∈ fn) : ∃ fd cdv, FDm K x m q st fd cdv := by
  obtain ⟨fd, F⟩ := c.defs hx
  obtain ⟨oc, od, dV, kV, doc, pm, an, cdv, ct, osl, rfl, lk, hcd, hD, hK⟩ := F.ex
  have hD : dV = .none := by
    rcases hD with ⟨_, e⟩ | ⟨e, _⟩
    · exact e
    · exact absurd rfl e
  subst hD
  exact ⟨_, cdv, ⟨_, _, _, _, _, _, _, _, rfl, lk, hcd⟩, F.kp⟩
/-! ### exception classes that keep what they are handed -/
def oexObjB (C : Addr) (o : Option Obj) : Bool := match o with
  | some ⟨.type "type", _, .cls cd, sl⟩ => (match cd.mro, sl.toList with
    | .ref C' :: bm, [_, _, _, _, some (.builtin n), _] => C' == C && n == "ValueError.__new__" && !cd.hasDel && cd.hasDict && PySem.HandSPX.refsVE bm
    | _, _ => false)
  | _ => false
def oexB (K : PySem.W.Frag) (C : Addr) : Bool := oexObjB C (K.lookup C) && (He.eqO (PySem.W.findIn K (.ref C) "__setattr__") (some (some (.builtin "object.__setattr__"))) && (decide (PySem.W.subIn K (.ref C) (.type "BaseException") = some true) && (decide (PySem.W.typeIn K (.ref C) = some (.type "type")) && PySem.W.keepIn K (.ref C))))
theorem oexB_ok {K : PySem.W.Frag} {C : Addr} (h : oexB K C = true) : OexC K C := by
  obtain ⟨h0, h⟩ := bb h
  obtain ⟨h1, h⟩ := bb h
  obtain ⟨h2, h⟩ := bb h
  obtain ⟨h3, h4⟩ := bb h
  refine ⟨?_, He.eqO_ok h1, of_decide_eq_true h2, of_decide_eq_true h3, h4⟩
  unfold oexObjB at h0
  split at h0
  · rename_i dd cd sl ho
    split at h0
    · rename_i C' bm k0 k1 k2 k3 n k5 hm hs
      simp only [Bool.and_eq_true, beq_iff_eq, Bool.not_eq_true'] at h0
      obtain ⟨⟨⟨⟨rfl, rfl⟩, hdel⟩, hdict⟩, hbm⟩ := h0
      obtain ⟨nm, bs, mro, ns, qn, hd, sn, sub, ab, col, del⟩ := cd
      dsimp only at hm hdel hdict
      subst hm hdel hdict
      have hsl : sl = #[k0, k1, k2, k3, some (.builtin "ValueError.__new__"), k5] := by
        obtain ⟨l⟩ := sl
        simp only at hs
        rw [hs]
      subst hsl
      exact ⟨nm, qn, ns, bs, bm, sn, sub, ab, col, dd, k0, k1, k2, k3, k5, ho, hbm⟩
    · cases h0
  · cases h0
def valB (r : Option PySem.W.CFound) (n : String) : Bool := match r with
  | some (.val (.builtin m)) => m == n
  | _ => false
theorem valB_ok {r : Option PySem.W.CFound} {n : String} (h : valB r n = true) : r = some (.val (.builtin n)) := by
  unfold valB at h
  split at h
  · rw [beq_iff_eq.mp h]
  · cases h
def exciB (K : PySem.W.Frag) (c f B : Str) : Bool := oexB K (He.ga K c) && (He.eqO (PySem.W.findIn K (.ref (He.ga K c)) "__init__") (some (some (.ref (He.ma K (He.ga K c) "__init__")))) && (decide (PySem.W.typeIn K (.ref (He.ma K (He.ga K c) "__init__")) = some (.type "function")) &&
  (He.eqO (PySem.W.findIn K (.ref (He.ga K c)) f) (some none) && (PySem.W.readsIn K (He.ga K B) (.type "type") && (He.eqO (PySem.W.specialIn K (.ref (He.ga K B)) "__getattribute__") (some (some (.builtin "type.__getattribute__"))) && valB (PySem.W.findCls K (.ref (He.ga K B)) (.type "type") "__init__") "ValueError.__init__")))))
theorem exci_of {P : Program} {w : World} {K : PySem.W.Frag} {h : Heap} {mg : Str → Option Value} {base : Heap} (X : K.In h) (G : h.Ns mainGlobals mg) {xs : List Str} (hg : glosB K xs = true) {c f B q sl a : Str} {st : Stmt} {fd : FuncData} {cdv : Value} (F : FDm K c "__init__" q st fd cdv) (hc : c ∈ xs) (hB : B ∈ xs) (e : exciB K c f B = true)
    {p1 p2 p3 p4 p5 p6 p7 p8 p9 p10 p11 p12 : Pos} (hb : defBody st = [.Expr (.Call (.Attribute (.Name B p1) "__init__" p2) [.Name sl p3, .JoinedStr [.FormattedValue (.Name a p4) (-1) none p5] p6] [] p7) p8, .Assign [.Attribute (.Name sl p9) f p10] (.Name a p11) p12])
    (hbi : ∀ (kV doc pm : Value) (an : Option Addr) (cdv ct : Value) (us : List Value), us.length = ([sl, a] : List Str).length → bindArgs (PySem.W.fnOf "__init__" q (defArgs st) (defBody st) (defScope st) .none kV doc pm an cdv ct) ⟨us, []⟩ = pure (([sl, a] : List Str).zip us))
    (Sc : FnScope [sl, a] [sl, a] (defScope st)) (h1 : (defScope st).names.lookup sl = some .local) (h2 : (defScope st).names.lookup a = some .local) (h3 : (defScope st).names.lookup B = some .globalImplicit)
    (d1 : (sl == ("__debug__" : Str)) = false) (d2 : (sl == ("__classdict__" : Str)) = false) (d3 : (a == ("__debug__" : Str)) = false) (d4 : (a == ("__classdict__" : Str)) = false) (d5 : (B == ("__debug__" : Str)) = false)
    {pl : Env → Sem Bool} (hcl : ∀ env : Env, eval (.Call (.Attribute (.Name B p1) "__init__" p2) [.Name sl p3, .JoinedStr [.FormattedValue (.Name a p4) (-1) none p5] p6] [] p7) env = (do
      let ov ← eval (.Name B p1) env
      standAt p2.atName
      let (f, first) ← holding [ov] (getMethod ov "__init__" (pl env))
      callWith p7 f first (backTo p7 (starEach [.Name sl p3, .JoinedStr [.FormattedValue (.Name a p4) (-1) none p5] p6] env)) (backToKw p7 (keywordEach [] env))))
    (hbk : ∀ (kV doc pm : Value) (an : Option Addr) (cdv ct x u : Value), bindArgs (PySem.W.fnOf "__init__" q (defArgs st) (defBody st) (defScope st) .none kV doc pm an cdv ct) ⟨[x], [(f, u)]⟩ = pure (([sl, a] : List Str).zip [x, u]) := by intros; rfl) :
    ExcI P w K mg base c f := by
  obtain ⟨e0, e⟩ := bb e
  obtain ⟨e1, e⟩ := bb e
  obtain ⟨e2, e⟩ := bb e
  obtain ⟨e3, e⟩ := bb e
  obtain ⟨e4, e⟩ := bb e
  obtain ⟨e5, e6⟩ := bb e
  obtain ⟨oc, od, kV, doc, pm, an, ct, osl, rfl, lk, hcd⟩ := F.ex
  have T := oexB_ok e0
  refine ⟨_, _, _, _, glo_at X G hg hc, T, He.eqO_ok e1, of_decide_eq_true e2, He.eqO_ok e3, init_ok hb lk hcd Sc h1 h2 h3 (glo_at X G hg hB) e4 (He.eqO_ok e5) (valB_ok e6) T (He.eqO_ok e3) d1 d2 d3 d4 d5 hcl, .all (hbi kV doc pm an cdv ct), hbk kV doc pm an cdv ct⟩
section
variable {K : PySem.W.Frag} {mg : Str → Option Value} {T : Tb} {H : Hp} {μ : Nat → Addr} {N : Nat}
theorem RpF.lookup {f : Str} {fs : List (Str × Vl)} {vs : List (Str × V)} (r : RpF K mg H μ N fs vs) : (∀ w, fs.lookup f = some w → ∃ x, vs.lookup f = some x ∧ Rp K mg H μ N w x) ∧ (fs.lookup f = none → vs.lookup f = none) := by
  induction r with
  | nil => exact ⟨fun w h => (by cases h), fun _ => rfl⟩
  | @cons g x v xs vs r rs ih =>
    rw [lookup_put]
    have e0 : List.lookup f ((g, x) :: xs) = if f = g then some x else xs.lookup f := by
      by_cases h : f = g
      · subst h
        simp [List.lookup]
      · have e : (f == g) = false := by simpa using h
        rw [if_neg h]
        simp [List.lookup, e]
    rw [e0]
    by_cases e : f = g
    · rw [if_pos e, if_pos e]
      refine ⟨fun w h => ?_, fun h => by cases h⟩
      cases h
      exact ⟨v, rfl, r⟩
    · rw [if_neg e, if_neg e]
      exact ih
end
end Q

set_option linter.all false
set_option maxRecDepth 100000
set_option maxHeartbeats 1000000
namespace Q
open PySem PySem.Spec PyProof.Rows L2

/-! ### own classes: a field set -/
def putV (f : Str) (v : Vl) : List (Str × Vl) → List (Str × Vl)
  | [] => [(f, v)]
  | (g, x) :: r => if g = f then (g, v) :: r else (g, x) :: putV f v r
section
variable {K : PySem.W.Frag} {mg : Str → Option Value} {T : Tb} {H : Hp} {μ : Nat → Addr} {N : Nat}
theorem RpF.put {f : Str} {v : Vl} {x : V} (rv : Rp K mg H μ N v x) {fs : List (Str × Vl)} {vs : List (Str × V)} (r : RpF K mg H μ N fs vs) : RpF K mg H μ N (putV f v fs) (putF f x vs) := by
  induction r with
  | nil => exact .cons rv .nil
  | @cons g y z fs vs r rs ih =>
    unfold putV putF
    by_cases e : g = f
    · rw [if_pos e, if_pos e]; exact .cons rv rs
    · rw [if_neg e, if_neg e]; exact .cons r ih
theorem RpF.length {fs : List (Str × Vl)} {vs : List (Str × V)} (r : RpF K mg H μ N fs vs) : fs.length = vs.length := by
  induction r with
  | nil => rfl
  | cons _ _ ih => simp [ih]
end
theorem FnQ.ok {P : Program} {w : World} {K : PySem.W.Frag} {mg : Str → Option Value} {base : Heap} {k : Nat} {f : Addr} {fd : FuncData} {ps : List Str} {sp : Sp} (F : FnQ false P w K mg base k f fd ps sp) : FnOk P w K mg base (L2.CX P w) k f fd ps sp :=
  ⟨F.len, fun A outer s H args us vs Q E hr e0 hb r h => F.run A outer s H args us vs Q E hr (fun z => by cases z) e0 hb r h⟩
end Q

set_option linter.all false
set_option maxRecDepth 100000
set_option maxHeartbeats 1000000
namespace Q
open PySem PySem.Spec PySem.Calls PyProof.Rows L2

/-! ### a method, as the head tells it -/
end Q

set_option linter.all false
set_option maxRecDepth 100000
set_option maxHeartbeats 1000000
namespace Q
open PySem PySem.Spec PyProof.Rows L2

/-! ### the head told with the interpreter's own statics (readsIn looks there) -/
def asS (g : Addr → Option Obj) (n : Nat) : List Addr := He.asD g n ++ [cStatics]
def obsXS (n : Nat) (fa : List He.Fa) (fn : List He.DefD) (ts : List He.Tab) (tf : List He.Defn) (ex : PySem.W.Frag → Bool) (g : Addr → Option Obj) : He.AlX := (He.obsT fa fn ts (He.frT g (asS g n)), ex (He.frT g (asS g n)) && He.tabsB g tf (He.frT g (asS g n)))
theorem saysXS_of {n : Nat} {fa : List He.Fa} {fn : List He.DefD} {ts : List He.Tab} {tf : List He.Defn} {ex : PySem.W.Frag → Bool} {w : World} {h : Heap} (e : obsXS n fa fn ts tf ex h.get? = He.valX fn ts w) : He.SaysX fa fn ts tf ex w h (He.frT h.get? (asS h.get? n)) := by
  have e1 : He.obsT fa fn ts (He.frT h.get? (asS h.get? n)) = He.valT fn ts w := congrArg (fun z : He.AlX => z.1) e
  have e2 : (ex (He.frT h.get? (asS h.get? n)) && He.tabsB h.get? tf (He.frT h.get? (asS h.get? n))) = true := congrArg (fun z : He.AlX => z.2) e
  obtain ⟨h1, h2⟩ := bb e2
  have key : ∀ p ∈ tf, PySem.W.codeHdIn (He.frT h.get? (asS h.get? n)) (He.cT (He.frT h.get? (asS h.get? n)) p).1 (He.cT (He.frT h.get? (asS h.get? n)) p).2 = true ∧ ∃ o, h.get? (He.cT (He.frT h.get? (asS h.get? n)) p).2 = some o ∧ He.emptyTab o = true := fun p hp => by
    obtain ⟨h3, h4⟩ := bb (List.all_eq_true.mp h2 p hp)
    refine ⟨h3, ?_⟩
    cases q : h.get? (He.cT (He.frT h.get? (asS h.get? n)) p).2 with
    | none =>
      rw [q] at h4
      cases h4
    | some o =>
      rw [q] at h4
      exact ⟨o, rfl, h4⟩
  exact ⟨e1, h1, fun p hp => (key p hp).1, fun p hp => by
    obtain ⟨_, o, q, z⟩ := key p hp
    exact He.frT_none q z, fun p hp => by
    obtain ⟨_, o, q, z⟩ := key p hp
    rw [q, He.emptyTab_eq z]⟩
def hookXS (n : Nat) (fa : List He.Fa) (fn : List He.DefD) (ts : List He.Tab) (tf : List He.Defn) (ex : PySem.W.Frag → Bool) : PySem.W.Hook where
  α := He.AlX
  obs := fun s => obsXS n fa fn ts tf ex s.heap.get?
  val := fun w => He.valX fn ts w
  says := fun w h => ∃ K : PySem.W.Frag, K.In h ∧ He.SaysX fa fn ts tf ex w h K
  of := fun _ _ e => ⟨_, He.frT_in, saysXS_of e⟩
  keeps := fun _ _ _ ⟨K, hK, c⟩ k => ⟨K, PySem.W.Frag.In.keeps hK k, ⟨c.t, c.more, c.hd, c.out, fun p hp => k _ _ (c.empty p hp)⟩⟩
theorem obsXS_eq {n : Nat} {fa : List He.Fa} {fn : List He.DefD} {ts : List He.Tab} {tf : List He.Defn} {ex : PySem.W.Frag → Bool} {g : Addr → Option Obj} {s : Shared} (h : ∀ a, g a = s.heap.get? a) : obsXS n fa fn ts tf ex g = (hookXS n fa fn ts tf ex).obs s := by
  have e : g = s.heap.get? := funext h
  rw [e] <;> rfl
end Q

set_option linter.all false
set_option maxRecDepth 100000
set_option maxHeartbeats 400000
namespace Q
open PySem PySem.Spec PyProof.Rows L2

end Q

set_option linter.all false
set_option maxRecDepth 100000
set_option maxHeartbeats 1000000
namespace Q
open PySem PySem.Spec PyProof.Rows L2

/-! ### exceptions made as values -/
theorem excO_ok {P : Program} {w : World} {H : Hp} {h : Heap} {a : Addr} {cls : Value} {d : Option Addr} {oe : Obj} {vs : Array Value} (he : h.get? a = some oe) (hz : Zc cls d oe) (hd : oe.data = .fields vs) : ObjOk P w H h a (excO a cls d) :=
  ⟨⟨oe, vs, he, hz, hd⟩, ⟨_, he⟩, fun h1 h2 z k => by
    obtain ⟨o, v, q1, q2, q3⟩ := z
    exact ⟨o, v, k _ q1, q2, q3⟩⟩
theorem pe_mk {X : Cx} {e : Expr} {t : L2.St → Hp → XK → Prop} (he : PMk X e t) : PE X e (fun σ H Q => t σ H fun cls d H' => ∀ b, H' b = none → Q (.ref b) (upd H' b (excO b cls d))) := by
  refine ⟨fun pins s σ H Q I h => ?_⟩
  refine wpAny_mono (he pins s σ H _ I h) (fun u s' hu => ?_) fun _ _ x => x
  obtain ⟨a, oe, vs, sI, H', cls, d, rfl, J, k, hne, ha, hz, hd, h1, na, os, ag, r, q⟩ := hu
  have U : Un (frs X.stack) [] H' (upd H' a (excO a cls d)) sI.heap s'.heap := {
    keep := fun b u q _ _ _ => k b u q
    slot := fun b u q _ _ _ => ⟨u.slots, k b u q⟩
    free := fun b u q n _ => by rw [upd_ne (fun e => by rw [e, hne] at q; cases q)]; exact n
    there := fun b u q _ => ⟨u, k b u q⟩
    tups := fun b xs q => by rw [upd_ne (ne_of_none q na)]; exact q
    frzs := fun b u xs q => by rw [upd_ne (ne_of_none q na)]; exact q
    tbls := fun b ps q => ⟨#[], by rw [upd_ne (ne_of_none q na), q]; simp⟩ }
  have K : HOk X.prog X.w (upd H' a (excO a cls d)) s'.heap := fun b u e => by
    by_cases hb : b = a
    · subst hb; rw [upd_same] at e; cases e; exact excO_ok ha hz hd
    · rw [upd_ne hb] at e
      exact (J.hok b u e).stay (fun c v _ q => k c v q) (fun c q => by rw [upd_ne (ne_of_none q na)]; exact q) fun c xs q => by rw [upd_ne (ne_of_none q na)]; exact q
  exact ⟨.ref a, _, J.call' (ch := []) os U K ag (fun b z => absurd z (by simp)), rfl, q a na⟩
def mMkE (c : Str) (fe : En → M Vl) : En → M Vl := fun ρ => bnd (fe ρ) fun _ => ret (.exc c "" .non)
section
variable {X : Cx} {T : Tb} {W : WX} {pos : Pos}
theorem se_mkE {c : Str} {e : Expr} {fe : En → M Vl} {p : Pos} (C : ExcS X.K X.mg c [.type "ValueError", .type "Exception", .type "BaseException", .type "object"] "ValueError.__new__") (he : SE X T W e fe) (hg : Gl X c := by rfl) (hdb : (c == ("__debug__" : Str)) = false := by decide)
    (hs : starEach [e] X.env = (false, eval e X.env) :: starEach [] X.env := by rfl) : SE X T W (.Call (.Name c p) [e] [] pos) (mMkE c fe) := by
  obtain ⟨a, hm, h1, h2, h3, h4⟩ := C.ex
  refine PE.imp (pe_mk (SkE.pmk_own1 PySem.F.excBase_ValueError h1 hm h2 (raises_own h3 h4) hg he hs hdb)) fun σ H Q h => ?_
  obtain ⟨ρ, μ, S, sr, er, h⟩ := h
  refine ⟨ρ, μ, S, sr, er, Pst.bnd_ h fun v S1 H1 μ1 x e1 sr1 rx h1 b hb => ?_⟩
  have e2 : Ext H1 μ1 S1.n (upd H1 b (excO b (.ref a) none)) μ1 S1.n := ext_upd hb _
  exact h1 _ μ1 _ e2 (sr1.laid hb) (.exc c hm upd_same)
end
end Q

set_option linter.all false
set_option maxRecDepth 100000
set_option maxHeartbeats 1000000
namespace Q
open PySem PySem.Spec PyProof.Rows

/-! ### an own exception made with one keyword -/
section
variable {prog : Program} {w : World} {A : Around} {E : Value → Shared → Prop} {R : Result → Shared → Prop} {h : Heap} {g : Array GenState} {d : Drawn} {t : Nat} {os : OsState} {f : Str} {u : Value}
variable {nm q : Str} {C N : Addr} {bs bm bmB : List Value} {hdct : Bool} {sn : List Str} {sub : List Value} {ab : Bool} {col : Option Bool} {dd : Option Addr} {k0 k1 k2 k3 k5 : Option Value} {B newId initId : String}
theorem kwCheck (Fa : ExcBaseFacts B newId initId bmB) (ht : ∀ X : String, bm.contains (.type X) = bmB.contains (.type X)) {Q : Unit → Shared → Prop} {M : Model}
    (hc : h.get? C = some (excClassObj nm q C N bs bm hdct sn sub ab col dd k0 k1 k2 k3 k5 newId)) (hq : Q () ⟨h, g, d, t, os⟩) : wpAny M A (checkBuiltinCall newId ⟨[.ref C], [(f, u)]⟩) Q E ⟨h, g, d, t, os⟩ := by
  have e1 : (Value.ref C :: bm).contains (.type B) = true := by rw [List.contains_cons, ht, Fa.hasB, Bool.or_true]
  have e2 := Fa.noStar
  simp only [checkBuiltinCall, Fa.newKind, Fa.newSplit, Fa.newRow]
  repeat (first | refine wpAny_loadPart_at hc ?_ | (refine wpAny_isSubtype_exc hc ?_; rw [e1]) | refine wpAny_staticBase_exc hc ?_ | refine wpAny_madeBy_exc hc ?_ | simp only [bne_self_eq_false, Bool.false_eq_true, if_false] | wp_step)
  exact hq
theorem kwNew (Fa : ExcBaseFacts B newId initId bmB) (ht : ∀ X : String, bm.contains (.type X) = bmB.contains (.type X))
    (hc : h.get? C = some (excClassObj nm q C N bs bm hdct sn sub ab col dd k0 k1 k2 k3 k5 newId))
    (hq : R (.ok (.ret (.ref (h.objs.size + 1)))) ⟨(h.push (PySem.W.kdv_tup [])).push (PySem.HandSPX.excO C h.objs.size), g, d, t, os⟩) :
    codeAny (model prog w) A (.builtin newId ⟨[.ref C], [(f, u)]⟩) R ⟨h, g, d, t, os⟩ := by
  have e0 := Fa.ends
  have e1 : (Value.ref C :: bm).contains (.type B) = true := by rw [List.contains_cons, ht, Fa.hasB, Bool.or_true]
  have e2 : (Value.ref C :: bm).contains (.type "AttributeError") = false := by rw [List.contains_cons, ht, Fa.noAttr]; rfl
  have e3 : (Value.ref C :: bm).contains (.type "NameError") = false := by rw [List.contains_cons, ht, Fa.noName]; rfl
  refine codeAny_builtinAt Fa.entry ?_
  unfold Builtin.«BaseException.__new__»
  refine PySem.wpAt_bind ?_
  show PySem.wpAt _ _ _ (stack >>= _) _ _ _
  refine PySem.wpAt_bind (PySem.wpAt_stack fun p below => PySem.wpAt_of_wpAny ?_)
  wp_walk
  refine PySem.wpAt_of_wpAny ?_
  rw [Fa.owner]
  repeat (first | with_reducible refine wpAny_madeHere_exc Fa.canon hc ?_ | with_reducible refine wpAny_loadPart_at hc ?_ | (with_reducible refine wpAny_isSubtype_exc hc ?_; first | rw [e1] | rw [e2] | rw [e3]) | wp_step)
  show R _ _
  rw [Heap.size_push]
  exact hq
theorem kwTypeCall (Fa : ExcBaseFacts B newId initId bmB) (ht : ∀ X : String, bm.contains (.type X) = bmB.contains (.type X)) {fI : Addr} {Q : Fin → Shared → Prop}
    (hc : h.get? C = some (excClassObj nm q C N bs bm hdct sn sub ab col dd k0 k1 k2 k3 k5 newId))
    (iL : PySem.W.Looks (model prog w) h (typeLookup (.ref C) "__init__") (some (.ref fI))) (bL : ∀ self, PySem.W.Looks (model prog w) h (bindSpecial (.ref fI) self) (.ref fI, [self]))
    (hq : codeAny (model prog w) A (.call (.ref fI) ⟨[.ref (h.objs.size + 1)], [(f, u)]⟩)
      (fun r s' => match r with | .ok (.ret v) => v = .none ∧ Q (.done (.ret (.ref (h.objs.size + 1)))) s' | .ok _ => False | .error e => E e s')
      ⟨(h.push (PySem.W.kdv_tup [])).push (PySem.HandSPX.excO C h.objs.size), g, d, t, os⟩) :
    wpAny (model prog w) A (Builtin.«type.__call__» ⟨[.ref C], [(f, u)]⟩) Q E ⟨h, g, d, t, os⟩ := by
  repeat (first | with_reducible refine wpAny_loadPart_at hc ?_ | with_reducible refine wpAny_madeBy_exc hc ?_ | wp_step)
  refine codeAny_call_builtin_code (Code.quiet_builtin _ Fa.quiet) (kwCheck Fa ht hc ?_)
  refine kwNew Fa ht hc ?_
  show wpAny _ _ _ _ _ _
  have k : ∀ b o, h.get? b = some o → ((h.push (PySem.W.kdv_tup [])).push (PySem.HandSPX.excO C h.objs.size)).get? b = some o := fun b o e => Heap.get?_push_of_some _ (Heap.get?_push_of_some _ e)
  have hc1 := k _ _ hc
  have ge : ((h.push (PySem.W.kdv_tup [])).push (PySem.HandSPX.excO C h.objs.size)).get? (h.objs.size + 1) = some (PySem.HandSPX.excO C h.objs.size) := by heap_get
  have cC : (Value.ref C :: bm).contains (.ref C) = true := by simp
  have i1 := iL.keeps k
  have b1 := (bL (.ref (h.objs.size + 1))).keeps k
  unfold isInstance
  repeat (first | with_reducible refine wpAny_loadPart_at ge ?_ | (with_reducible refine wpAny_isSubtype_exc hc1 ?_; rw [cC]) | wp_step)
  show wpAny _ _ (typeLookup (.ref C) _) _ _ _
  refine i1.at ?_
  refine wpAny_holding (wpAny_bind (b1.at ?_))
  refine wpAny_bind (wpAny_call (codeAny_mono hq fun r s' z => ?_))
  rcases r with e | (v | _ | _ | _) <;> first | exact z | exact z.elim | skip
  obtain ⟨rfl, z⟩ := z
  first
    | exact wpAny_pure (wpAny_pure z)
    | (wp_walk; exact z)
theorem kwTypeCheck {M : Model} {Q : Unit → Shared → Prop} (hc : h.get? C = some (excClassObj nm q C N bs bm hdct sn sub ab col dd k0 k1 k2 k3 k5 newId))
    (hq : Q () ⟨h, g, d, t, os⟩) : wpAny M A (checkBuiltinCall "type.__call__" ⟨[.ref C], [(f, u)]⟩) Q E ⟨h, g, d, t, os⟩ := by
  have f3 := tc_sub
  have hT : (⟨h, g, d, t, os⟩ : Shared).TypeIs (.ref C) "type" := ⟨_, hc, rfl⟩
  simp only [checkBuiltinCall, tc_kind, tc_split]
  repeat (any_goals (first | assumption | with_reducible refine wpAny_loadPart_at hc ?_ | with_reducible refine wpAny_onRaise ?_ | with_reducible refine wpAny_map ?_ | wp_step))
theorem kwCall (Fa : ExcBaseFacts B newId initId bmB) (ht : ∀ X : String, bm.contains (.type X) = bmB.contains (.type X)) {fI : Addr}
    (hc : h.get? C = some (excClassObj nm q C N bs bm hdct sn sub ab col dd k0 k1 k2 k3 k5 newId))
    (iL : PySem.W.Looks (model prog w) h (typeLookup (.ref C) "__init__") (some (.ref fI))) (bL : ∀ self, PySem.W.Looks (model prog w) h (bindSpecial (.ref fI) self) (.ref fI, [self]))
    (hq : codeAny (model prog w) (A.under (.builtin "type.__call__" ⟨[.ref C], [(f, u)]⟩)) (.call (.ref fI) ⟨[.ref (h.objs.size + 1)], [(f, u)]⟩) (PySem.W.InitBack (h.objs.size + 1) R)
      ⟨(h.push (PySem.W.kdv_tup [])).push (PySem.HandSPX.excO C h.objs.size), g, d, t, os⟩) :
    codeAny (model prog w) A (.call (.ref C) ⟨[], [(f, u)]⟩) R ⟨h, g, d, t, os⟩ := by
  have f1 := tc_lookup
  have f2 := tc_bind (.ref C)
  have hTy : (⟨h, g, d, t, os⟩ : Shared).TypeIs (.ref C) "type" := ⟨_, hc, rfl⟩
  refine codeAny_of_tree ?_
  show wpAny _ _ (callAny (.ref C) _) _ _ _
  repeat (any_goals (first | assumption | with_reducible refine wpAny_loadPart_at hc ?_ | wp_step))
  refine ⟨rfl, ?_⟩
  refine codeAny_call_builtin_at (Code.quiet_builtin _ (by decide +kernel)) entry_typeCall (kwTypeCheck hc (kwTypeCall Fa ht hc iL bL ?_))
  refine codeAny_mono hq fun r s' z => ?_
  rcases r with e | (v | _ | _ | _) <;> exact z
end
end Q
namespace Q
open PySem PySem.Spec PyProof.Rows L2
section
variable {X : Cx} {e : Expr} {ta : TA} {p pos kpos : Pos}
/-- C(f=e) -/
theorem pmk_initK {c f : Str} (E : ExcI X.prog X.w X.K X.mg X.base c f) (hr : Room 2 X.A) (hg : Gl X c) (ha : PK X [⟨some f, e, kpos⟩] ta)
    (hdb : (c == ("__debug__" : Str)) = false := by decide)
    (hall : (backToKw pos (keywordEach [⟨some f, e, kpos⟩] X.env)).all (·.1.isSome) = true := by rfl) (hks : (backToKw pos (keywordEach [⟨some f, e, kpos⟩] X.env)).filterMap (·.1) = [f] := by rfl)
    (hpl : ((backTo pos (starEach [] X.env)).any (·.1) || (backToKw pos (keywordEach [⟨some f, e, kpos⟩] X.env)).any (·.1.isNone)) = false := by rfl) :
    PMk X (.Call (.Name c p) [] [⟨some f, e, kpos⟩] pos) (fun σ H Q => ta σ H fun vs H1 => ∃ v, vs = [v] ∧ fmV v ∧ ∀ (C dx : Addr), X.mg c = some (.ref C) → H1 dx = none → Q (.ref C) (some dx) (upd H1 dx (exd dx [(f, v)]))) := by
  intro pins s σ H Q I h
  obtain ⟨C, fI, fd, ps, hm, T, iC, tI, hno, F1, hb, hbk⟩ := E.ex
  obtain ⟨nm, q, N, bs, bm, sn, sub, ab, col, dd, k0, k1, k2, k3, k5, hC, hbm⟩ := T.cls
  refine wpAny_Call_Name_kw (ld_glob I hg hm ?_ hdb)
  refine PySem.W.callWith_KW0 (h₀ := X.base) I.ok.mod.kin T.kC hall (thn (ha.run pos pins s σ H _ I h) fun us s1 ⟨vs, H1, I1, r1, v, ev, hv, q1⟩ => ⟨I1.kIn, ?_⟩) hpl
  subst ev
  rw [hks]
  cases r1 with
  | @cons _ u _ us ru rn =>
  cases rn
  show wpAny _ _ (call (.ref C) [] [(f, u)]) _ _ _
  obtain ⟨hp, g, dr, tk, os⟩ := s1
  have sz : hp.objs.size ≤ hp.objs.size + 1 := Nat.le_succ _
  have hn : H1 (hp.objs.size + 1) = none := I1.hok.fresh sz
  have hq : (fun vs H Q (_ : XK) => spI f vs H Q C8.E0 ∧ ∀ a C' v, vs = [.ref a, v] → H a = some (exo a C' none) → C' = C) [.ref (hp.objs.size + 1), v] (upd H1 (hp.objs.size + 1) (exo (hp.objs.size + 1) C none))
      (fun v' H2 => v' = .non ∧ ∃ (d : Addr), H2 (hp.objs.size + 1) = some (exo (hp.objs.size + 1) C (some d)) ∧ H2 d = some (exd d [(f, v)]) ∧ Q (.ref C) (some d) (del H2 (hp.objs.size + 1))) C8.E0 := by
    refine ⟨⟨_, C, v, rfl, upd_same, hv, fun dx h1 h2 => ⟨rfl, dx, upd_same, by rw [upd_ne h2, upd_same], ?_⟩⟩, fun a C' v' e1 e2 => ?_⟩
    · rw [upd_ne h2] at h1
      have e2 : del (upd (upd (upd H1 (hp.objs.size + 1) (exo (hp.objs.size + 1) C none)) dx (exd dx [(f, v)])) (hp.objs.size + 1) (exo (hp.objs.size + 1) C (some dx))) (hp.objs.size + 1) = upd H1 dx (exd dx [(f, v)]) := by
        funext b
        by_cases hb1 : b = hp.objs.size + 1
        · rw [hb1, del_same, upd_ne (Ne.symm h2)]; exact hn.symm
        · rw [del_ne hb1, upd_ne hb1]
          by_cases hb2 : b = dx
          · rw [hb2, upd_same, upd_same]
          · rw [upd_ne hb2, upd_ne hb2, upd_ne hb1]
      rw [e2]
      exact q1 C dx hm h1
    · simp only [List.cons.injEq, V.ref.injEq] at e1
      rw [← e1.1, upd_same] at e2
      exact (exo_inj (Option.some.inj e2)).symm
  have kk : ∀ b o, hp.get? b = some o → ((hp.push (PySem.W.kdv_tup [])).push (PySem.HandSPX.excO C hp.objs.size)).get? b = some o := fun b o e => Heap.get?_push_of_some _ (Heap.get?_push_of_some _ e)
  have ge : ((hp.push (PySem.W.kdv_tup [])).push (PySem.HandSPX.excO C hp.objs.size)).get? (hp.objs.size + 1) = some (PySem.HandSPX.excO C hp.objs.size) := by heap_get
  have I2 : Inv X pins σ (upd H1 (hp.objs.size + 1) (exo (hp.objs.size + 1) C none)) ⟨(hp.push (PySem.W.kdv_tup [])).push (PySem.HandSPX.excO C hp.objs.size), g, dr, tk, os⟩ :=
    I1.laid (t' := tk) (a := hp.objs.size + 1) (o := exo (hp.objs.size + 1) C none) (h' := (hp.push (PySem.W.kdv_tup [])).push (PySem.HandSPX.excO C hp.objs.size)) kk sz (exo_ok ge)
  have r2 : Vals [V.ref (hp.objs.size + 1), v] [Value.ref (hp.objs.size + 1), u] := .cons rfl (.cons ru .nil)
  refine wpAny_call (kwCall PySem.F.excBase_ValueError (fun Y => PySem.HandSPX.refsVE_contains Y bm hbm) (I1.kIn _ _ hC) (PySem.W.looks_findIn I1.kIn iC) (fun self => PySem.W.bind_fn I1.kIn self tI)
    (codeAny_mono (F1.run _ X.stack _ _ ⟨[Value.ref (hp.objs.size + 1)], [(f, u)]⟩ [Value.ref (hp.objs.size + 1), u] _ _ C8.E0 (hr.make C [] [(f, u)]) (I2.env0.make C [] [(f, u)]) (.of_eq (hbk _ _)) r2 hq) fun r s' hq' => ?_))
  cases r with
  | error er => exact (show False from hq').elim
  | ok fl =>
    cases fl with
    | ret u =>
      obtain ⟨v', H2, os2, bare2, un2, hok2, rv, ev, d, ea, ed, q2⟩ := hq'
      subst ev
      obtain ⟨h2, g2, d2, t2, os'⟩ := s'
      exact ⟨rv, mk_endQ (raises_own T.exC T.tyC) I1 sz kk un2 hok2 os2 bare2 ea ed q2⟩
    | next => exact False.elim hq'
    | brk => exact False.elim hq'
    | cont => exact False.elim hq'
end
/-- an exception with a field, made -/
def mMkF (c f : Str) (fe : En → M Vl) : En → M Vl := fun ρ => bnd (fe ρ) fun v S => if fmOk v = true then some (.ok (.exc c f v), S) else none
section
variable {X : Cx} {T : Tb} {W : WX} {pos : Pos}
theorem mkF_end {c f : Str} (hf : f ≠ "") {σ : L2.St} {H1 : Hp} {μ1 : Nat → Addr} {S1 : Sto} {v : Vl} {x : V} {Q : VK} (sr1 : SRel X.K X.mg T H1 μ1 S1) (rx : Rp X.K X.mg H1 μ1 S1.n v x)
    (h1 : Pst X.K X.mg T (fun cls d H' => W cls d σ H') (rl X.K X.mg) H1 μ1 S1.n Q (if fmOk v = true then some (.ok (.exc c f v), S1) else none)) :
    fmV x ∧ ∀ (C dx : Addr), X.mg c = some (.ref C) → H1 dx = none → ∀ b, upd H1 dx (exd dx [(f, x)]) b = none → Q (.ref b) (upd (upd H1 dx (exd dx [(f, x)])) b (excO b (.ref C) (some dx))) := by
  by_cases hv : fmOk v = true
  · rw [if_pos hv] at h1
    refine ⟨?_, fun C dx hm hd b hb => ?_⟩
    · cases v with
      | int i => cases rx; exact (show i.natAbs.log2 < 1920 from of_decide_eq_true hv)
      | str y => cases rx; exact (show y.length ≤ sizeLine from of_decide_eq_true hv)
      | non => cases rx; exact (show True from trivial)
      | _ => cases hv
    · have e2 : Ext H1 μ1 S1.n (upd H1 dx (exd dx [(f, x)])) μ1 S1.n := ext_upd hd _
      have e3 : Ext (upd H1 dx (exd dx [(f, x)])) μ1 S1.n (upd (upd H1 dx (exd dx [(f, x)])) b (excO b (.ref C) (some dx))) μ1 S1.n := ext_upd hb _
      have hbd : dx ≠ b := fun z => by rw [← z, upd_same] at hb; cases hb
      exact h1 _ μ1 _ (e2.trans e3) ((sr1.laid hd).laid hb) (.excF c f hf hm upd_same (by rw [upd_ne hbd, upd_same]) (rx.ext (e2.trans e3)))
  · rw [if_neg hv] at h1; exact h1.elim
theorem se_mkF {c f : Str} {e : Expr} {fe : En → M Vl} {p : Pos} (hf : f ≠ "") (E : ExcI X.prog X.w X.K X.mg X.base c f) (hr : Room 2 X.A) (he : SE X T W e fe) (hg : Gl X c := by rfl) (hdb : (c == ("__debug__" : Str)) = false := by decide)
    (hs : starEach [e] X.env = (false, eval e X.env) :: starEach [] X.env := by rfl) : SE X T W (.Call (.Name c p) [e] [] pos) (mMkF c f fe) := by
  refine PE.imp (pe_mk (pmk_init E hr hg (pa_cons he pa_nil hs) hdb hs rfl)) fun σ H Q h => ?_
  obtain ⟨ρ, μ, S, sr, er, h⟩ := h
  refine ⟨ρ, μ, S, sr, er, Pst.bnd_ h fun v S1 H1 μ1 x e1 sr1 rx h1 => ?_⟩
  obtain ⟨a, b⟩ := mkF_end hf sr1 rx h1
  exact ⟨x, rfl, a, b⟩
theorem se_mkFK {c f : Str} {e : Expr} {fe : En → M Vl} {p kpos : Pos} (hf : f ≠ "") (E : ExcI X.prog X.w X.K X.mg X.base c f) (hr : Room 2 X.A) (he : SE X T W e fe) (hg : Gl X c := by rfl) (hdb : (c == ("__debug__" : Str)) = false := by decide)
    (hall : (backToKw pos (keywordEach [⟨some f, e, kpos⟩] X.env)).all (·.1.isSome) = true := by rfl) (hks : (backToKw pos (keywordEach [⟨some f, e, kpos⟩] X.env)).filterMap (·.1) = [f] := by rfl)
    (hpl : ((backTo pos (starEach [] X.env)).any (·.1) || (backToKw pos (keywordEach [⟨some f, e, kpos⟩] X.env)).any (·.1.isNone)) = false := by rfl) : SE X T W (.Call (.Name c p) [] [⟨some f, e, kpos⟩] pos) (mMkF c f fe) := by
  refine PE.imp (pe_mk (pmk_initK E hr hg (pk_cons he pk_nil) hdb hall hks hpl)) fun σ H Q h => ?_
  obtain ⟨ρ, μ, S, sr, er, h⟩ := h
  refine ⟨ρ, μ, S, sr, er, Pst.bnd_ h fun v S1 H1 μ1 x e1 sr1 rx h1 => ?_⟩
  obtain ⟨a, b⟩ := mkF_end hf sr1 rx h1
  exact ⟨x, rfl, a, b⟩
end
end Q

set_option linter.all false
set_option maxRecDepth 100000
set_option maxHeartbeats 1000000
namespace Q
open PySem PySem.Spec PyProof.Rows L2

/-! ### own exceptions stand under ValueError -/
def bIsV (ok : List Str) : List Vl → MO Vl := fun as S => match as with
  | [.exc c _ _, .ty "ValueError"] => if c ∈ ok then some (.bl true, S) else none
  | _ => none
structure ExcVs (K : PySem.W.Frag) (mg : Str → Option Value) (ok : List Str) : Prop where
  v : ∀ c ∈ ok, ∀ C, mg c = some (.ref C) → PySem.W.kitOne K (.ref C) (.type "ValueError") = some true
section
variable {X : Cx} {T : Tb} {sub : List (Str × Str)} {ok : List Str}
theorem cs_isV (C : ExcCs X.K X.mg sub ok) (V : ExcVs X.K X.mg ok) : CaS X T (.builtin "isinstance") (bIsV ok) := by
  intro pins s σ H xs us Q I rs h
  obtain ⟨μ, S, as, sr, ra, h⟩ := h
  obtain ⟨p, e⟩ := h.some_
  rw [e] at h
  unfold bIsV at e
  split at e
  · rename_i c g v
    by_cases hc : c ∈ ok
    · rw [if_pos hc] at e
      cases e
      cases ra with
      | cons r1 r2 =>
        cases r2 with
        | cons r2 r3 =>
          cases r3
          obtain ⟨a, C0, dd, ex, hC, hH, hod⟩ := rp_exc r1
          subst ex
          cases r2
          obtain ⟨u, w', rfl, ru, rw'⟩ := vals2 rs
          obtain rfl : w' = Value.type "ValueError" := rw'
          obtain rfl : u = Value.ref a := ru
          obtain ⟨⟨oe, vs, he, hz, hdd⟩, _, _⟩ := I.hok a _ hH
          obtain ⟨od, J⟩ : ∃ od, PySem.W.InstAt s.heap a oe C0 od := by
            obtain ⟨oc, od, oda, osl⟩ := oe
            obtain ⟨h1, h2⟩ := hz
            dsimp only at h1 h2 hdd
            subst h1 h2 hdd
            cases od with
            | none => exact ⟨none, he, rfl, rfl, trivial⟩
            | some d0 =>
              obtain ⟨fs, hfs⟩ := hod d0 rfl
              obtain ⟨mA, hns, _⟩ := exd_at I.hok hfs
              obtain ⟨o, _, _, ho, _⟩ := hns
              exact ⟨some o, he, rfl, rfl, ho⟩
          have EC := C.c c hc C0 hC
          exact PySem.W.kia_one (kitx_excD EC.hg EC.hk EC.hs EC.hd EC.ha EC.hn EC.ht EC.hm) I.kIn J (V.v c hc C0 hC) (fun z => nomatch z) fun tk => ⟨.bl _, H, I.kept (t' := tk) fun _ _ z => z, rfl, PstO.here h sr (.bl _)⟩
    · rw [if_neg hc] at e; cases e
  · cases e
end
def exvB (K : PySem.W.Frag) (ok : List Str) : Bool := ok.all fun c => decide (PySem.W.kitOne K (.ref (He.ga K c)) (.type "ValueError") = some true)
theorem exv_of {K : PySem.W.Frag} {h : Heap} {mg : Str → Option Value} (X : K.In h) (G : h.Ns mainGlobals mg) {ok xs : List Str} (hg : glosB K xs = true) (hs : ∀ x ∈ ok, x ∈ xs) (c : exvB K ok = true) : ExcVs K mg ok := by
  refine ⟨fun x hx C hC => ?_⟩
  have h1 := glo_at X G hg (hs x hx)
  rw [h1] at hC
  cases hC
  exact of_decide_eq_true (List.all_eq_true.mp c x hx)
end Q

set_option linter.all false
set_option maxRecDepth 100000
set_option maxHeartbeats 400000
namespace Q
open PySem PySem.Spec PyProof.Rows L2

/-! ### the wanted ends, applied one by one -/
section
variable {E : XP} {S : Sto} {ρ : En} {D : End_} {Z : Vl → Sto → Prop} {Zl : List Vl → Sto → Prop} {Zb : Bool → Sto → Prop}
theorem a_slot {i : Nat} (q : ∃ v, ρ[i]? = some (some v) ∧ Z v S) : wpe (mSlot i ρ S) E Z := by rw [w_slot]; exact q
theorem a_c {v : Vl} (q : Z v S) : wpe (mC v ρ S) E Z := q
theorem a_nil (q : Zl [] S) : wpe (mNil ρ S) E Zl := q
theorem a_cons {f : En → M Vl} {g : En → M (List Vl)} (q : wpe (f ρ S) E fun x S1 => wpe (g ρ S1) E fun xs S2 => Zl (x :: xs) S2) : wpe (mCons f g ρ S) E Zl := by rw [w_cons]; exact q
theorem a_bin {m : Vl → Vl → MO Vl} {fa fb : En → M Vl} (q : wpe (fa ρ S) E fun x S1 => wpe (fb ρ S1) E fun y S2 => wpo (m x y S2) Z) : wpe (mBin m fa fb ρ S) E Z := by rw [w_bin]; exact q
theorem a_bi {m : List Vl → MO Vl} {g : En → M (List Vl)} (q : wpe (g ρ S) E fun vs S1 => wpo (m vs S1) Z) : wpe (mBi m g ρ S) E Z := by rw [w_bi]; exact q
theorem a_tup {g : En → M (List Vl)} (q : wpe (g ρ S) E fun xs S1 => xs.length ≤ sizeLine ∧ Z (.tup xs) S1) : wpe (mTup g ρ S) E Z := by rw [w_tup]; exact q
theorem a_lst {g : En → M (List Vl)} (q : wpe (g ρ S) E fun xs S1 => xs.length ≤ sizeLine ∧ Z (.ref S1.n) (S1.push (.lst xs))) : wpe (mLst g ρ S) E Z := by rw [w_lst]; exact q
theorem a_tst {f : En → M Vl} (q : wpe (f ρ S) E fun v S1 => ∃ b, v = .bl b ∧ Zb b S1) : wpe (mTst f ρ S) E Zb := by rw [w_tst]; exact q
theorem a_not {f : En → M Bool} (q : wpe (f ρ S) E fun b S1 => Zb (!b) S1) : wpe (mNot f ρ S) E Zb := by rw [w_not]; exact q
theorem a_and {f g : En → M Bool} (q : wpe (f ρ S) E fun b S1 => if b = true then wpe (g ρ S1) E Zb else Zb false S1) : wpe (mAnd f g ρ S) E Zb := by rw [w_and]; exact q
theorem a_or {f g : En → M Bool} (q : wpe (f ρ S) E fun b S1 => if b = true then Zb true S1 else wpe (g ρ S1) E Zb) : wpe (mOr f g ρ S) E Zb := by rw [w_or]; exact q
theorem a_ite {c : En → M Bool} {f g : En → M Vl} (q : wpe (c ρ S) E fun b S1 => if b = true then wpe (f ρ S1) E Z else wpe (g ρ S1) E Z) : wpe (mIte c f g ρ S) E Z := by rw [w_ite]; exact q
theorem a_andV {f g : En → M Vl} (q : wpe (f ρ S) E fun v S1 => ∃ b, v = .bl b ∧ if b = true then wpe (g ρ S1) E Z else Z (.bl false) S1) : wpe (mAndV f g ρ S) E Z := by rw [w_andV]; exact q
theorem a_orV {f g : En → M Vl} (q : wpe (f ρ S) E fun v S1 => ∃ b, v = .bl b ∧ if b = true then Z (.bl true) S1 else wpe (g ρ S1) E Z) : wpe (mOrV f g ρ S) E Z := by rw [w_orV]; exact q
theorem a_call {f : List Vl → M Vl} {g : En → M (List Vl)} (q : wpe (g ρ S) E fun vs S1 => wpe (f vs S1) E Z) : wpe (mCall f [] g ρ S) E Z := by rw [w_call]; exact q
theorem a_callK {f : List Vl → M Vl} {p : List Nat} {g : En → M (List Vl)} (q : wpe (g ρ S) E fun vs S1 => wpe (f (reord p vs) S1) E Z) : wpe (mCallK f p g ρ S) E Z := by rw [w_callK]; exact q
theorem a_met {Ty : String} {m : Vl → List Vl → MO Vl} {f : En → M Vl} {g : En → M (List Vl)} (q : wpe (f ρ S) E fun o S1 => tyB Ty S1 o = true ∧ wpe (g ρ S1) E fun as S2 => wpo (m o as S2) Z) : wpe (mMet Ty m f g ρ S) E Z := by rw [w_met]; exact q
theorem a_bl {b : Bool} {P : Bool → Prop} (q : P b) : ∃ c, Vl.bl b = Vl.bl c ∧ P c := ⟨b, rfl, q⟩
theorem a_sl {f : En → M Vl} {fl fh : En → M (Option Int)} (q : wpe (f ρ S) E fun v S1 => wpe (fl ρ S1) E fun lo S2 => wpe (fh ρ S2) E fun hi S3 => wpo (bSl v lo hi S3) Z) : wpe (mSl f fl fh ρ S) E Z := by rw [w_sl]; exact q
theorem a_no {Zo : Option Int → Sto → Prop} (q : Zo none S) : wpe (oNone ρ S) E Zo := q
theorem a_so {f : En → M Vl} {Zo : Option Int → Sto → Prop} (q : wpe (f ρ S) E fun v S1 => ∃ i, v = .int i ∧ Zo (some i) S1) : wpe (oSome f ρ S) E Zo := by rw [w_some']; exact q
theorem a_exi {i : Int} {P : Int → Prop} (q : P i) : ∃ j, Vl.int i = Vl.int j ∧ P j := ⟨i, rfl, q⟩
theorem a_neg {f : En → M Vl} (q : wpe (f ρ S) E fun v S1 => ∃ i, v = .int i ∧ Z (.int (-i)) S1) : wpe (mNeg f ρ S) E Z := by rw [w_neg]; exact q
theorem a_rev {f : En → M Vl} (q : wpe (f ρ S) E fun v S1 => wpo (bRev v S1) Z) : wpe (mRev f ρ S) E Z := by rw [w_rev]; exact q
theorem a_gnm {i : Nat} {v : Vl} {Ze : En → Sto → Prop} (q : Ze (ρ.set i (some v)) S) : wpo (gNm i v ρ S) Ze := q
/-! statements -/
theorem a_as {a b c : MS} (q : wps (sSeq a (sSeq b c) ρ S) D) : wps (sSeq (sSeq a b) c ρ S) D := by simp only [s_seq] at q ⊢; exact q
theorem a_let {f : En → M Vl} {i : Nat} {b : MS} (q : wpe (f ρ S) D.ex fun v S1 => wps (b (ρ.set i (some v)) S1) D) : wps (sSeq (sAsg f (gNm i)) b ρ S) D := by rw [s_seq, s_set]; exact q
theorem a_do {f : En → M Vl} {b : MS} (q : wpe (f ρ S) D.ex fun _ S1 => wps (b ρ S1) D) : wps (sSeq (sExp f) b ρ S) D := by rw [s_seq, s_exp]; exact q
theorem a_pars {is : List Nat} {g : En → M (List Vl)} {b : MS} (q : wpe (g ρ S) D.ex fun vs S1 => vs.length = is.length ∧ wps (b ((is.zip vs).foldl (fun ρ p => ρ.set p.1 (some p.2)) ρ) S1) D) : wps (sSeq (sPar is g) b ρ S) D := by rw [s_seq, s_par]; exact q
theorem a_rets {f : En → M Vl} {b : MS} (q : wpe (f ρ S) D.ex D.rt) : wps (sSeq (sRet f) b ρ S) D := by rw [s_seq, s_ret]; exact q
theorem a_ifs {c : En → M Bool} {a b : MS} (q : wpe (c ρ S) D.ex fun t S1 => if t = true then wps (sSeq a b ρ S1) D else wps (b ρ S1) D) : wps (sSeq (sIf c a sSkip) b ρ S) D := by
  rw [s_seq, s_if]
  refine wpe_mono q (fun t S1 h => ?_) (fun _ _ _ _ z => z)
  cases t
  · rw [if_neg (by decide)] at h ⊢
    rw [s_skip]; exact h
  · rw [if_pos rfl] at h ⊢
    rw [s_seq] at h; exact h
theorem a_skips {b : MS} (q : wps (b ρ S) D) : wps (sSeq sSkip b ρ S) D := by rw [s_seq, s_skip]; exact q
theorem a_set {f : En → M Vl} {i : Nat} (q : wpe (f ρ S) D.ex fun v S1 => D.nx (ρ.set i (some v)) S1) : wps (sAsg f (gNm i) ρ S) D := by rw [s_set]; exact q
theorem a_exp {f : En → M Vl} (q : wpe (f ρ S) D.ex fun _ S1 => D.nx ρ S1) : wps (sExp f ρ S) D := by rw [s_exp]; exact q
theorem a_ret {f : En → M Vl} (q : wpe (f ρ S) D.ex D.rt) : wps (sRet f ρ S) D := by rw [s_ret]; exact q
theorem a_if {c : En → M Bool} {a b : MS} (q : wpe (c ρ S) D.ex fun t S1 => if t = true then wps (a ρ S1) D else wps (b ρ S1) D) : wps (sIf c a b ρ S) D := by rw [s_if]; exact q
theorem a_par {is : List Nat} {g : En → M (List Vl)} (q : wpe (g ρ S) D.ex fun vs S1 => vs.length = is.length ∧ D.nx ((is.zip vs).foldl (fun ρ p => ρ.set p.1 (some p.2)) ρ) S1) : wps (sPar is g ρ S) D := by rw [s_par]; exact q
end
/-! a loop over a list that is known -/
def unr (n : Nat) (all : List Vl) (g : Vl → En → MO En) (b : MS) (D : End_) : List Vl → En → Sto → Prop
  | [], ρ, S => D.nx ρ S
  | x :: r, ρ, S => wpo (g x ρ S) fun ρ1 S1 => wps (b ρ1 S1) ⟨fun ρ2 S2 => S2.at_ n = .lst all ∧ unr n all g b D r ρ2 S2, D.nx, fun ρ2 S2 => S2.at_ n = .lst all ∧ unr n all g b D r ρ2 S2, D.rt, D.ex⟩
theorem s_forU {fi : En → M Vl} {g : Vl → En → MO En} {b : MS} {D : End_} {ρ : En} {S : Sto} (h : wpe (fi ρ S) D.ex fun v S1 => ∃ n xs, v = .ref n ∧ S1.at_ n = .lst xs ∧ unr n xs g b D xs ρ S1) : wps (sFor (mIt fi) g b ρ S) D := by
  refine s_for ?_
  rw [w_it]
  refine wpe_mono h ?_ (fun _ _ _ _ z => z)
  rintro _ S1 ⟨n, xs, rfl, h1, h2⟩
  refine .inr (.inl ⟨n, xs, rfl, getR_l h1, xs, fun i ρ S => S.at_ n = .lst xs ∧ unr n xs g b D (xs.drop i) ρ S, ⟨h1, h2⟩, ?_, ?_, ?_⟩)
  · rintro i ρ S _ ⟨k, _⟩
    exact nxL_at (getR_l k)
  · rintro i x ρ S hx ⟨k1, k2⟩
    obtain ⟨hi, rfl⟩ := List.getElem?_eq_some_iff.mp hx
    rw [List.drop_eq_getElem_cons hi] at k2
    exact k2
  · rintro ρ S ⟨_, k⟩
    rw [List.drop_length] at k
    exact k
theorem a_u0 {n : Nat} {all : List Vl} {g : Vl → En → MO En} {b : MS} {D : End_} {ρ : En} {S : Sto} (q : D.nx ρ S) : unr n all g b D [] ρ S := q
theorem a_u1 {n : Nat} {all : List Vl} {g : Vl → En → MO En} {b : MS} {D : End_} {x : Vl} {r : List Vl} {ρ : En} {S : Sto} (q : wpo (g x ρ S) fun ρ1 S1 => wps (b ρ1 S1) ⟨fun ρ2 S2 => S2.at_ n = .lst all ∧ unr n all g b D r ρ2 S2, D.nx, fun ρ2 S2 => S2.at_ n = .lst all ∧ unr n all g b D r ρ2 S2, D.rt, D.ex⟩) : unr n all g b D (x :: r) ρ S := q
theorem a_gt2 {i j : Nat} {x y : Vl} {ρ : En} {S : Sto} {Ze : En → Sto → Prop} (q : Ze ((ρ.set i (some x)).set j (some y)) S) : wpo (gTp ((gNm i) :: ((gNm j) :: [])) (.tup [x, y]) ρ S) Ze := q
/-! operators -/
section
variable {S : Sto} {Z : Vl → Sto → Prop} {v a b c : Vl} {xs : List Vl} {i j : Int} {x y : Str}
theorem g_at0 (q : Z v S) : wpo (bSub' (.tup (v :: xs)) (.int 0) S) Z := by rw [o_at0]; exact q
theorem g_at1 (q : Z v S) : wpo (bSub' (.tup (a :: v :: xs)) (.int 1) S) Z := by rw [o_at1]; exact q
theorem g_at2 (q : Z v S) : wpo (bSub' (.tup (a :: b :: v :: xs)) (.int 2) S) Z := by rw [o_at2]; exact q
theorem g_at3 (q : Z v S) : wpo (bSub' (.tup (a :: b :: c :: v :: xs)) (.int 3) S) Z := (o_at (k := 3) (S := S) (Z := Z) (xs := a :: b :: c :: v :: xs) (v := v) rfl (by decide)).mpr q
theorem g_strs (q : Z (.bl (decide (x = y))) S) : wpo (bEq (.str x) (.str y) S) Z := q
theorem g_nstr (q : Z (.bl (!decide (x = y))) S) : wpo (bNe (.str x) (.str y) S) Z := q
theorem g_eqi (q : Z (.bl (i == j)) S) : wpo (bEq (.int i) (.int j) S) Z := q
theorem g_nei (q : Z (.bl (!(i == j))) S) : wpo (bNe (.int i) (.int j) S) Z := q
theorem g_add (q : Z (.int (i + j)) S) : wpo (bAdd (.int i) (.int j) S) Z := q
theorem g_sub (q : Z (.int (i - j)) S) : wpo (bSub (.int i) (.int j) S) Z := q
theorem g_gt (q : Z (.bl (decide (j < i))) S) : wpo (bGt (.int i) (.int j) S) Z := q
theorem g_ge (q : Z (.bl (decide (j ≤ i))) S) : wpo (bGe (.int i) (.int j) S) Z := q
theorem g_lt (q : Z (.bl (decide (i < j))) S) : wpo (bLt (.int i) (.int j) S) Z := q
theorem g_le (q : Z (.bl (decide (i ≤ j))) S) : wpo (bLe (.int i) (.int j) S) Z := q
theorem g_isn (q : Z (.bl (isNon v)) S) : wpo (bIs false v .non S) Z := q
theorem g_isb {b c : Bool} (q : Z (.bl (decide (b = c))) S) : wpo (bIs false (.bl b) (.bl c) S) Z := q
theorem g_isnb {b c : Bool} (q : Z (.bl (!decide (b = c))) S) : wpo (bIs true (.bl b) (.bl c) S) Z := q
theorem g_lent (q : Z (.int xs.length) S) : wpo (bLen [.tup xs] S) Z := q
theorem g_int (q : Z (.int i) S) : wpo (bInt [.int i] S) Z := q
end
end Q

set_option linter.all false
set_option maxRecDepth 100000
set_option maxHeartbeats 4000000
namespace G
open PySem PySem.Spec PyProof.Rows L2 Q
def top (i : Nat) : Stmt := PySem.Challenge.pw_oneuseheads_k14_errors_made.main.body.getD i (.Pass ⟨0, 0, 0, 0⟩)
def excs : List Str := ["BadBare", "BadBoxes", "BadEnd", "BadHead", "BadJournal", "BadKind", "BadKinds", "BadLetter", "BadLine", "BadMachine", "BadMany", "BadName", "BadNames", "BadNumber", "BadPath", "BadPattern", "BadProgram", "BadShape", "BadSigns", "BadSurroundings", "BadTable", "BadTerm", "BadText", "BadWhich", "BadWord", "BadWords", "HeadError", "NoProgram", "OtherLetters", "TooMany", "Unread"]
def excSub : List (Str × Str) := ([("BadBare", "BadBare"), ("BadBare", "HeadError"), ("BadBoxes", "BadBoxes"), ("BadBoxes", "HeadError"), ("BadEnd", "BadEnd"), ("BadEnd", "HeadError"), ("BadHead", "BadHead"), ("BadHead", "HeadError"), ("BadJournal", "BadJournal"), ("BadJournal", "HeadError"), ("BadKind", "BadKind"), ("BadKind", "HeadError"), ("BadKinds", "BadKinds"), ("BadKinds", "HeadError"), ("BadLetter", "BadLetter"), ("BadLetter", "HeadError"), ("BadLine", "BadLine"), ("BadLine", "HeadError"), ("BadMachine", "BadMachine"), ("BadMachine", "HeadError"), ("BadMany", "BadMany"), ("BadMany", "HeadError"), ("BadName", "BadName"), ("BadName", "HeadError"), ("BadNames", "BadNames"), ("BadNames", "HeadError"), ("BadNumber", "BadNumber"), ("BadNumber", "HeadError"), ("BadPath", "BadPath"), ("BadPath", "HeadError")] : List (Str × Str)) ++ ([("BadPattern", "BadPattern"), ("BadPattern", "HeadError"), ("BadProgram", "BadProgram"), ("BadProgram", "HeadError"), ("BadShape", "BadShape"), ("BadShape", "HeadError"), ("BadSigns", "BadSigns"), ("BadSigns", "HeadError"), ("BadSurroundings", "BadSurroundings"), ("BadSurroundings", "HeadError"), ("BadTable", "BadTable"), ("BadTable", "HeadError"), ("BadTerm", "BadTerm"), ("BadTerm", "HeadError"), ("BadText", "BadText"), ("BadText", "HeadError"), ("BadWhich", "BadWhich"), ("BadWhich", "HeadError"), ("BadWord", "BadWord"), ("BadWord", "HeadError"), ("BadWords", "BadWords"), ("BadWords", "HeadError"), ("HeadError", "HeadError"), ("NoProgram", "HeadError"), ("NoProgram", "NoProgram"), ("OtherLetters", "HeadError"), ("OtherLetters", "OtherLetters"), ("TooMany", "HeadError"), ("TooMany", "TooMany"), ("Unread", "HeadError")] : List (Str × Str)) ++ ([("Unread", "Unread")] : List (Str × Str))
theorem bt_ValueError : bootBuiltins "ValueError" = some (.type "ValueError") := by decide +kernel
theorem bi_abs : bootBuiltins "abs" = some (.builtin "abs") := by decide +kernel
theorem bt_int : bootBuiltins "int" = some (.type "int") := by decide +kernel
theorem bi_isinstance : bootBuiltins "isinstance" = some (.builtin "isinstance") := by decide +kernel
theorem bi_len : bootBuiltins "len" = some (.builtin "len") := by decide +kernel
noncomputable def b__law_begun (C L : Nat → List Vl → M Vl) : MS :=
    (sSeq (sAsg (mLc (mIt (mSlot 0)) (.nm 2) (mTst (mBin bGe (mBi bAbs (mCons (mSlot 2) mNil)) (mBin bPow (mC (.int 10)) (mC (.int 18))))) (mBin bSub (mBi bAbs (mCons (mSlot 2) mNil)) (mBin bPow (mC (.int 10)) (mC (.int 18)))) [2]) (gNm 1))
    (sRet (mDisp (((mC (.str "great")), (mSlot 1)) :: (((mC (.str "cells")), (mLc (mIt (mSlot 0)) (.nm 2) mTrue (mBi bAbs (mCons (mSlot 2) mNil)) [2])) :: (((mC (.str "rest")), (mC (.int 0))) :: (((mC (.str "turn")), (mC (.int 0))) :: [])))))))
noncomputable def b__law_blended (C L : Nat → List Vl → M Vl) : MS :=
    (sSeq (sPar [2, 3] (mCons (mBin bAdd (mBin bSub' (mSlot 0) (mC (.str "turn"))) (mC (.int 1))) (mCons (mC (.int 0)) mNil)))
    (sSeq (sAsg (mSlot 2) (gSb (mSlot 0) (mC (.str "turn"))))
    (sSeq (sFor (mIt (mLst (mCons (mC (.int 2147483579)) (mCons (mC (.int 2147483629)) (mCons (mC (.int 2147483563)) mNil))))) (gNm 1)
    (sSeq (sAsg (mBin bAdd (mBin bMul (mC (.int 48271)) (mSlot 2)) (mBin bDiv (mSlot 1) (mC (.int 53)))) (gNm 4))
    (sSeq (sFor (mIt (mBin bSub' (mSlot 0) (mC (.str "cells")))) (gNm 5)
    (sAsg (mBin bMod (mBi bInt (mCons (mBin bAdd (mBin bAdd (mBin bMul (mSlot 4) (mC (.int 69621))) (mSlot 5)) (mSlot 2)) mNil)) (mSlot 1)) (gNm 4)))
    (sAsg (mBin bAdd (mBin bMul (mSlot 3) (mC (.int 2147483647))) (mBin bMod (mBi bInt (mCons (mBin bPow (mSlot 4) (mC (.int 5))) mNil)) (mSlot 1))) (gNm 3)))))
    (sRet (mSlot 3)))))
noncomputable def b__law_draw (C L : Nat → List Vl → M Vl) : MS :=
    (sSeq (sIf (mTst (mBin bEq (mBin bSub' (mSlot 0) (mC (.str "rest"))) (mC (.int 0))))
    (sAsg (mIte (mTst (mBin bNe (mBin bSub' (mSlot 0) (mC (.str "great"))) (mLst mNil))) (mMet "list" mtPopAt (mBin bSub' (mSlot 0) (mC (.str "great"))) (mCons (mC (.int 0)) mNil)) (mCall (C 1) [] (mCons (mSlot 0) mNil))) (gSb (mSlot 0) (mC (.str "rest"))))
    sSkip)
    (sSeq (sAsg (mBin bMod (mBi bInt (mCons (mBin bSub' (mSlot 0) (mC (.str "rest"))) mNil)) (mSlot 1)) (gNm 2))
    (sSeq (sAsg (mBin bDiv (mBin bSub' (mSlot 0) (mC (.str "rest"))) (mSlot 1)) (gSb (mSlot 0) (mC (.str "rest"))))
    (sRet (mSlot 2)))))
noncomputable def b__law_pick (C L : Nat → List Vl → M Vl) : MS :=
    (sRet (mBin bSub' (mSlot 1) (mCall (C 2) [] (mCons (mSlot 0) (mCons (mBi bLen (mCons (mSlot 1) mNil)) mNil)))))
noncomputable def b__law_plain (C L : Nat → List Vl → M Vl) : MS :=
    (sSeq (sAsg (mLst (mCons (mMkE "BadBare" (mSlot 0)) (mCons (mMkE "BadBoxes" (mSlot 0)) (mCons (mMkE "BadEnd" (mSlot 0)) (mCons (mMkE "BadHead" (mSlot 0)) (mCons (mMkE "BadJournal" (mSlot 0)) (mCons (mMkE "BadKind" (mSlot 0)) mNil))))))) (gNm 1))
    (sSeq (sAsg (mBin bAdd (mSlot 1) (mLst (mCons (mMkE "BadKinds" (mSlot 0)) (mCons (mMkE "BadLetter" (mSlot 0)) (mCons (mMkE "BadLine" (mSlot 0)) (mCons (mMkE "BadMachine" (mSlot 0)) (mCons (mMkE "BadMany" (mSlot 0)) (mCons (mMkE "BadName" (mSlot 0)) mNil)))))))) (gNm 1))
    (sSeq (sAsg (mBin bAdd (mSlot 1) (mLst (mCons (mMkE "BadNames" (mSlot 0)) (mCons (mMkE "BadNumber" (mSlot 0)) (mCons (mMkE "BadPath" (mSlot 0)) (mCons (mMkE "BadPattern" (mSlot 0)) (mCons (mMkE "BadProgram" (mSlot 0)) (mCons (mMkE "BadShape" (mSlot 0)) mNil)))))))) (gNm 1))
    (sSeq (sAsg (mBin bAdd (mSlot 1) (mLst (mCons (mMkE "BadSurroundings" (mSlot 0)) (mCons (mMkE "BadTable" (mSlot 0)) (mCons (mMkE "BadTerm" (mSlot 0)) (mCons (mMkE "BadText" (mSlot 0)) (mCons (mMkE "BadWhich" (mSlot 0)) (mCons (mMkE "BadWord" (mSlot 0)) mNil)))))))) (gNm 1))
    (sRet (mBin bAdd (mSlot 1) (mLst (mCons (mMkE "BadWords" (mSlot 0)) (mCons (mMkE "NoProgram" (mSlot 0)) (mCons (mMkE "OtherLetters" (mSlot 0)) mNil))))))))))
noncomputable def b__law_beneath (C L : Nat → List Vl → M Vl) : MS :=
    (sSeq (sAsg (mLst (mCons (mBi (bIsE excSub excs) (mCons (mMkE "BadKinds" (mSlot 0)) (mCons (mC (.gl "BadKind")) mNil))) (mCons (mBi (bIsE excSub excs) (mCons (mMkE "BadKind" (mSlot 0)) (mCons (mC (.gl "BadKinds")) mNil))) mNil))) (gNm 1))
    (sSeq (sAsg (mBin bAdd (mSlot 1) (mLst (mCons (mBi (bIsE excSub excs) (mCons (mMkE "BadNames" (mSlot 0)) (mCons (mC (.gl "BadName")) mNil))) (mCons (mBi (bIsE excSub excs) (mCons (mMkE "BadName" (mSlot 0)) (mCons (mC (.gl "BadNames")) mNil))) mNil)))) (gNm 1))
    (sSeq (sAsg (mBin bAdd (mSlot 1) (mLst (mCons (mBi (bIsE excSub excs) (mCons (mMkE "BadWords" (mSlot 0)) (mCons (mC (.gl "BadWord")) mNil))) (mCons (mBi (bIsE excSub excs) (mCons (mMkE "BadWord" (mSlot 0)) (mCons (mC (.gl "BadWords")) mNil))) mNil)))) (gNm 1))
    (sSeq (sAsg (mBin bAdd (mSlot 1) (mLst (mCons (mBi (bIsE excSub excs) (mCons (mMkE "BadHead" (mSlot 0)) (mCons (mC (.gl "BadProgram")) mNil))) (mCons (mBi (bIsE excSub excs) (mCons (mMkE "BadProgram" (mSlot 0)) (mCons (mC (.gl "BadHead")) mNil))) mNil)))) (gNm 1))
    (sSeq (sAsg (mBin bAdd (mSlot 1) (mLst (mCons (mBi (bIsE excSub excs) (mCons (mMkE "BadMany" (mSlot 0)) (mCons (mC (.gl "BadNumber")) mNil))) (mCons (mBi (bIsE excSub excs) (mCons (mMkE "BadNumber" (mSlot 0)) (mCons (mC (.gl "BadMany")) mNil))) mNil)))) (gNm 1))
    (sRet (mBin bAdd (mSlot 1) (mLst (mCons (mBi (bIsE excSub excs) (mCons (mMkE "NoProgram" (mSlot 0)) (mCons (mC (.gl "BadProgram")) mNil))) (mCons (mBi (bIsE excSub excs) (mCons (mMkE "BadText" (mSlot 0)) (mCons (mC (.gl "BadSigns")) mNil))) mNil))))))))))
noncomputable def b_law (C L : Nat → List Vl → M Vl) : MS :=
    (sSeq (sAsg (mCall (C 0) [] (mCons (mSlot 0) mNil)) (gNm 1))
    (sSeq (sAsg (mCall (C 3) [] (mCons (mSlot 1) (mCons (mLst (mCons (mC (.str "no")) (mCons (mC (.str "why")) (mCons (mC (.str "x y")) (mCons (mC (.str "")) mNil))))) mNil))) (gNm 2))
    (sSeq (sFor (mIt (mCall (C 4) [] (mCons (mSlot 2) mNil))) (gNm 3)
    (sIf (mOr (mNot (mTst (mBi (bIsV excs) (mCons (mSlot 3) (mCons (mC (.ty "ValueError")) mNil))))) (mOr (mNot (mTst (mBi (bIsE excSub excs) (mCons (mSlot 3) (mCons (mC (.gl "HeadError")) mNil))))) (mTst (mBi (bIsE excSub excs) (mCons (mSlot 3) (mCons (mC (.gl "TooMany")) mNil))))))
    (sRet (mC (.bl false)))
    sSkip))
    (sSeq (sIf (mTst (mBin (bIn false) (mC (.bl true)) (mCall (C 5) [] (mCons (mSlot 2) mNil))))
    (sRet (mC (.bl false)))
    sSkip)
    (sSeq (sAsg (mCall (C 3) [] (mCons (mSlot 1) (mCons (mLst (mCons (mC (.int 0)) (mCons (mC (.int 1)) (mCons (mC (.int 7)) (mCons (mC (.int 400)) (mCons (mC .non) mNil)))))) mNil))) (gNm 4))
    (sSeq (sIf (mOr (mTst (mBin bNe (mXf "BadSigns" "at" (mMkF "BadSigns" "at" (mSlot 4))) (mSlot 4))) (mOr (mTst (mBin bNe (mXf "TooMany" "most" (mMkF "TooMany" "most" (mSlot 4))) (mSlot 4))) (mTst (mBi (bIsE excSub excs) (mCons (mMkF "TooMany" "most" (mSlot 4)) (mCons (mC (.gl "BadSigns")) mNil))))))
    (sRet (mC (.bl false)))
    sSkip)
    (sSeq (sFor (mIt (mLst (mCons (mMkF "Unread" "letter" (mSlot 2)) (mCons (mMkF "Unread" "letter" (mSlot 2)) mNil)))) (gNm 3)
    (sIf (mOr (mTst (mBin bNe (mXf "Unread" "letter" (mSlot 3)) (mSlot 2))) (mOr (mNot (mTst (mBi (bIsE excSub excs) (mCons (mSlot 3) (mCons (mC (.gl "HeadError")) mNil))))) (mTst (mBi (bIsE excSub excs) (mCons (mSlot 3) (mCons (mC (.gl "TooMany")) mNil))))))
    (sRet (mC (.bl false)))
    sSkip))
    (sRet (mAndV (mBi (bIsE excSub excs) (mCons (mMkF "TooMany" "most" (mSlot 4)) (mCons (mC (.gl "HeadError")) mNil))) (mBi (bIsE excSub excs) (mCons (mMkF "BadSigns" "at" (mSlot 4)) (mCons (mC (.gl "HeadError")) mNil))))))))))))
structure Gs (K : PySem.W.Frag) (mg : Str → Option Value) : Prop where
  b_ValueError : mg "ValueError" = none
  b_abs : mg "abs" = none
  b_int : mg "int" = none
  b_isinstance : mg "isinstance" = none
  b_len : mg "len" = none
  v_BadKinds : ∃ a, mg "BadKinds" = some (.ref a)
  v_BadKind : ∃ a, mg "BadKind" = some (.ref a)
  v_BadNames : ∃ a, mg "BadNames" = some (.ref a)
  v_BadName : ∃ a, mg "BadName" = some (.ref a)
  v_BadWords : ∃ a, mg "BadWords" = some (.ref a)
  v_BadWord : ∃ a, mg "BadWord" = some (.ref a)
  v_BadHead : ∃ a, mg "BadHead" = some (.ref a)
  v_BadProgram : ∃ a, mg "BadProgram" = some (.ref a)
  v_BadMany : ∃ a, mg "BadMany" = some (.ref a)
  v_BadNumber : ∃ a, mg "BadNumber" = some (.ref a)
  v_BadSigns : ∃ a, mg "BadSigns" = some (.ref a)
  v_TooMany : ∃ a, mg "TooMany" = some (.ref a)
  v_HeadError : ∃ a, mg "HeadError" = some (.ref a)
  v_Unread : ∃ a, mg "Unread" = some (.ref a)
  e_BadBare : ExcS K mg "BadBare" [.type "ValueError", .type "Exception", .type "BaseException", .type "object"] "ValueError.__new__"
  e_BadBoxes : ExcS K mg "BadBoxes" [.type "ValueError", .type "Exception", .type "BaseException", .type "object"] "ValueError.__new__"
  e_BadEnd : ExcS K mg "BadEnd" [.type "ValueError", .type "Exception", .type "BaseException", .type "object"] "ValueError.__new__"
  e_BadHead : ExcS K mg "BadHead" [.type "ValueError", .type "Exception", .type "BaseException", .type "object"] "ValueError.__new__"
  e_BadJournal : ExcS K mg "BadJournal" [.type "ValueError", .type "Exception", .type "BaseException", .type "object"] "ValueError.__new__"
  e_BadKind : ExcS K mg "BadKind" [.type "ValueError", .type "Exception", .type "BaseException", .type "object"] "ValueError.__new__"
  e_BadKinds : ExcS K mg "BadKinds" [.type "ValueError", .type "Exception", .type "BaseException", .type "object"] "ValueError.__new__"
  e_BadLetter : ExcS K mg "BadLetter" [.type "ValueError", .type "Exception", .type "BaseException", .type "object"] "ValueError.__new__"
  e_BadLine : ExcS K mg "BadLine" [.type "ValueError", .type "Exception", .type "BaseException", .type "object"] "ValueError.__new__"
  e_BadMachine : ExcS K mg "BadMachine" [.type "ValueError", .type "Exception", .type "BaseException", .type "object"] "ValueError.__new__"
  e_BadMany : ExcS K mg "BadMany" [.type "ValueError", .type "Exception", .type "BaseException", .type "object"] "ValueError.__new__"
  e_BadName : ExcS K mg "BadName" [.type "ValueError", .type "Exception", .type "BaseException", .type "object"] "ValueError.__new__"
  e_BadNames : ExcS K mg "BadNames" [.type "ValueError", .type "Exception", .type "BaseException", .type "object"] "ValueError.__new__"
  e_BadNumber : ExcS K mg "BadNumber" [.type "ValueError", .type "Exception", .type "BaseException", .type "object"] "ValueError.__new__"
  e_BadPath : ExcS K mg "BadPath" [.type "ValueError", .type "Exception", .type "BaseException", .type "object"] "ValueError.__new__"
  e_BadPattern : ExcS K mg "BadPattern" [.type "ValueError", .type "Exception", .type "BaseException", .type "object"] "ValueError.__new__"
  e_BadProgram : ExcS K mg "BadProgram" [.type "ValueError", .type "Exception", .type "BaseException", .type "object"] "ValueError.__new__"
  e_BadShape : ExcS K mg "BadShape" [.type "ValueError", .type "Exception", .type "BaseException", .type "object"] "ValueError.__new__"
  e_BadSurroundings : ExcS K mg "BadSurroundings" [.type "ValueError", .type "Exception", .type "BaseException", .type "object"] "ValueError.__new__"
  e_BadTable : ExcS K mg "BadTable" [.type "ValueError", .type "Exception", .type "BaseException", .type "object"] "ValueError.__new__"
  e_BadTerm : ExcS K mg "BadTerm" [.type "ValueError", .type "Exception", .type "BaseException", .type "object"] "ValueError.__new__"
  e_BadText : ExcS K mg "BadText" [.type "ValueError", .type "Exception", .type "BaseException", .type "object"] "ValueError.__new__"
  e_BadWhich : ExcS K mg "BadWhich" [.type "ValueError", .type "Exception", .type "BaseException", .type "object"] "ValueError.__new__"
  e_BadWord : ExcS K mg "BadWord" [.type "ValueError", .type "Exception", .type "BaseException", .type "object"] "ValueError.__new__"
  e_BadWords : ExcS K mg "BadWords" [.type "ValueError", .type "Exception", .type "BaseException", .type "object"] "ValueError.__new__"
  e_NoProgram : ExcS K mg "NoProgram" [.type "ValueError", .type "Exception", .type "BaseException", .type "object"] "ValueError.__new__"
  e_OtherLetters : ExcS K mg "OtherLetters" [.type "ValueError", .type "Exception", .type "BaseException", .type "object"] "ValueError.__new__"
  excs : ExcCs K mg excSub excs
  excv : ExcVs K mg G.excs
  x_BadSigns : ∀ (P : Program) (w : World) (base : Heap), ExcI P w K mg base "BadSigns" "at"
  x_TooMany : ∀ (P : Program) (w : World) (base : Heap), ExcI P w K mg base "TooMany" "most"
  x_Unread : ∀ (P : Program) (w : World) (base : Heap), ExcI P w K mg base "Unread" "letter"
structure Oks (P : Program) (w : World) (K : PySem.W.Frag) (mg : Str → Option Value) (T : Tb) (base : Heap) (k : Nat) (C : Nat → List Vl → M Vl) : Prop where
  f__law_begun : CalS false P w K mg T base k "_law_begun" [] (C 0)
  f__law_blended : CalS false P w K mg T base k "_law_blended" [] (C 1)
  f__law_draw : CalS false P w K mg T base k "_law_draw" [] (C 2)
  f__law_pick : CalS false P w K mg T base k "_law_pick" [] (C 3)
  f__law_plain : CalS false P w K mg T base k "_law_plain" [] (C 4)
  f__law_beneath : CalS false P w K mg T base k "_law_beneath" [] (C 5)
  f_law : CalS false P w K mg T base k "law" [] (C 6)
noncomputable def step (C L : Nat → List Vl → M Vl) : Nat → List Vl → M Vl
  | 0 => runF 3 1 (b__law_begun C L)
  | 1 => runF 6 1 (b__law_blended C L)
  | 2 => runF 3 2 (b__law_draw C L)
  | 3 => runF 2 2 (b__law_pick C L)
  | 4 => runF 2 1 (b__law_plain C L)
  | 5 => runF 2 1 (b__law_beneath C L)
  | 6 => runF 5 1 (b_law C L)
  | _ => fun _ _ => none
def zero : Nat → List Vl → M Vl := fun _ _ _ => none
noncomputable def lev : Nat → (Nat → List Vl → M Vl) × (Nat → List Vl → M Vl) × (Nat → List Vl → M Vl)
  | 0 => (zero, zero, zero)
  | n + 1 => (step (lev n).1 (lev n).2.2, (lev n).1, (lev n).2.1)
theorem lv__law_begun (n : Nat) : (lev (n + 1)).1 0 = runF 3 1 (b__law_begun (lev n).1 (lev n).2.2) := rfl
theorem lv__law_blended (n : Nat) : (lev (n + 1)).1 1 = runF 6 1 (b__law_blended (lev n).1 (lev n).2.2) := rfl
theorem lv__law_draw (n : Nat) : (lev (n + 1)).1 2 = runF 3 2 (b__law_draw (lev n).1 (lev n).2.2) := rfl
theorem lv__law_pick (n : Nat) : (lev (n + 1)).1 3 = runF 2 2 (b__law_pick (lev n).1 (lev n).2.2) := rfl
theorem lv__law_plain (n : Nat) : (lev (n + 1)).1 4 = runF 2 1 (b__law_plain (lev n).1 (lev n).2.2) := rfl
theorem lv__law_beneath (n : Nat) : (lev (n + 1)).1 5 = runF 2 1 (b__law_beneath (lev n).1 (lev n).2.2) := rfl
theorem lv_law (n : Nat) : (lev (n + 1)).1 6 = runF 5 1 (b_law (lev n).1 (lev n).2.2) := rfl
section
variable {P : Program} {w : World} {K : PySem.W.Frag} {mg : Str → Option Value} {T : Tb} {base : Heap} {n : Nat} {C L : Nat → List Vl → M Vl}
abbrev st__law_begun : Stmt := top 33
theorem sc__law_begun : FnScope ["_law_script", "_law_great", "_law_cell"] ["_law_script"] (defScope st__law_begun) := C8.fnScope_by (by decide +kernel)
theorem ok__law_begun (G : Gs K mg) (hA : Oks P w K mg T base (n + 2) C) (hL : Oks P w K mg T base n L) {f : Addr} {fd : FuncData} {cdv : Value} (F : FD K "_law_begun" st__law_begun f fd cdv) :
    FnQ false P w K mg base (n + 3) f fd ["_law_script"] (spF K mg T 1 (runF 3 1 (b__law_begun C L))) :=
  fn_ok (N := ["_law_script", "_law_great", "_law_cell"]) F sc__law_begun fun A outer s H E fc => by
    exact (sss_cons (ss_setLc 1 [("_law_cell", 2)] (t := (.nm 2)) (c := (mTst (mBin bGe (mBi bAbs (mCons (mSlot 2) mNil)) (mBin bPow (mC (.int 10)) (mC (.int 18)))))) (f := (mBin bSub (mBi bAbs (mCons (mSlot 2) mNil)) (mBin bPow (mC (.int 10)) (mC (.int 18))))) fc.calm_ fc.nd_ (L2.sw_true rfl rfl rfl (by decide +kernel)) (si_val (se_slot 0)) (blkOk_by (N := ["_law_script", "_law_great", "_law_cell"]) (sc := defScope st__law_begun) (by decide +kernel)) (fun _ _ _ _ _ => (tg_nm 2 fc.nd_)) (fun _ _ _ _ _ => (sts_one (st_cmp os_ge (se_bi cs_abs G.b_abs bi_abs (sa_cons (se_slot 2) sa_nil)) (se_bin os_pow se_int se_int)))) (fun _ _ _ _ _ => (se_bin os_sub (se_bi cs_abs G.b_abs bi_abs (sa_cons (se_slot 2) sa_nil)) (se_bin os_pow se_int se_int))))
    (sss_one (ss_ret (se_disp (sps_cons se_str (se_slot 1) (sps_cons se_str (se_lc [("_law_cell", 2)] (t := (.nm 2)) (c := mTrue) (f := (mBi bAbs (mCons (mSlot 2) mNil))) fc.calm_ fc.nd_ (si_val (se_slot 0)) (blkOk_by (N := ["_law_script", "_law_great", "_law_cell"]) (sc := defScope st__law_begun) (by decide +kernel)) (fun _ _ _ _ _ => (tg_nm 2 fc.nd_)) (fun _ _ _ _ _ => sts_nil) (fun _ _ _ _ _ => (se_bi cs_abs G.b_abs bi_abs (sa_cons (se_slot 2) sa_nil)))) (sps_cons se_str se_int (sps_cons se_str se_int sps_nil))))))))
abbrev st__law_blended : Stmt := top 34
theorem sc__law_blended : FnScope ["_law_state", "_law_prime", "_law_turn", "_law_found", "_law_blend", "_law_cell"] ["_law_state"] (defScope st__law_blended) := C8.fnScope_by (by decide +kernel)
theorem ok__law_blended (G : Gs K mg) (hA : Oks P w K mg T base (n + 2) C) (hL : Oks P w K mg T base n L) {f : Addr} {fd : FuncData} {cdv : Value} (F : FD K "_law_blended" st__law_blended f fd cdv) :
    FnQ false P w K mg base (n + 3) f fd ["_law_state"] (spF K mg T 1 (runF 6 1 (b__law_blended C L))) :=
  fn_ok (N := ["_law_state", "_law_prime", "_law_turn", "_law_found", "_law_blend", "_law_cell"]) F sc__law_blended fun A outer s H E fc => by
    exact (sss_cons (ss_par 2 3 fc.calm fc.nd (sa_cons (se_bin os_add (se_sub fc.u1 (se_slot 0) se_str) se_int) (sa_cons se_int sa_nil)) (by rfl))
    (sss_cons (ss_asg (se_slot 2) (sg_sub fc.u1 (se_slot 0) se_str))
    (sss_cons (ss_for fc.po fc.calm (si_val (se_lst (sa_cons se_int (sa_cons se_int (sa_cons se_int sa_nil))))) (sg_name 1 fc.nd)
    (sss_cons (ss_set 4 fc.nd (se_bin os_add (se_bin os_mul se_int (se_slot 2)) (se_bin os_div (se_slot 1) se_int)))
    (sss_cons (ss_for fc.po fc.calm (si_val (se_sub fc.u1 (se_slot 0) se_str)) (sg_name 5 fc.nd)
    (sss_one (ss_set 4 fc.nd (se_bin os_mod (se_ty cs_int G.b_int bt_int (sa_cons (se_bin os_add (se_bin os_add (se_bin os_mul (se_slot 4) se_int) (se_slot 5)) (se_slot 2)) sa_nil)) (se_slot 1)))))
    (sss_one (ss_set 3 fc.nd (se_bin os_add (se_bin os_mul (se_slot 3) se_int) (se_bin os_mod (se_ty cs_int G.b_int bt_int (sa_cons (se_bin os_pow (se_slot 4) se_int) sa_nil)) (se_slot 1))))))))
    (sss_one (ss_ret (se_slot 3))))))
abbrev st__law_draw : Stmt := top 35
theorem sc__law_draw : FnScope ["_law_state", "_law_room", "_law_found"] ["_law_state", "_law_room"] (defScope st__law_draw) := C8.fnScope_by (by decide +kernel)
theorem ok__law_draw (G : Gs K mg) (hA : Oks P w K mg T base (n + 2) C) (hL : Oks P w K mg T base n L) {f : Addr} {fd : FuncData} {cdv : Value} (F : FD K "_law_draw" st__law_draw f fd cdv) :
    FnQ false P w K mg base (n + 3) f fd ["_law_state", "_law_room"] (spF K mg T 2 (runF 3 2 (b__law_draw C L))) :=
  fn_ok (N := ["_law_state", "_law_room", "_law_found"]) F sc__law_draw fun A outer s H E fc => by
    exact (sss_cons (ss_if (st_cmp (os_eq fc.u64) (se_sub fc.u1 (se_slot 0) se_str) se_int)
    (sss_one (ss_asg (se_ite (st_cmp (os_ne fc.u64) (se_sub fc.u1 (se_slot 0) se_str) (se_lst sa_nil)) (se_met PySem.F.plainAttrs_list PySem.F.slot_list_pop PySem.F.type_list_pop ms_popAt (se_sub fc.u1 (se_slot 0) se_str) (sa_cons se_int sa_nil)) (se_call hA.f__law_blended fc.hr (fun z => by cases z) fc.tk (sa_cons (se_slot 0) sa_nil))) (sg_sub fc.u1 (se_slot 0) se_str)))
    sss_nil)
    (sss_cons (ss_set 2 fc.nd (se_bin os_mod (se_ty cs_int G.b_int bt_int (sa_cons (se_sub fc.u1 (se_slot 0) se_str) sa_nil)) (se_slot 1)))
    (sss_cons (ss_asg (se_bin os_div (se_sub fc.u1 (se_slot 0) se_str) (se_slot 1)) (sg_sub fc.u1 (se_slot 0) se_str))
    (sss_one (ss_ret (se_slot 2))))))
abbrev st__law_pick : Stmt := top 36
theorem sc__law_pick : FnScope ["_law_state", "_law_some"] ["_law_state", "_law_some"] (defScope st__law_pick) := C8.fnScope_by (by decide +kernel)
theorem ok__law_pick (G : Gs K mg) (hA : Oks P w K mg T base (n + 2) C) (hL : Oks P w K mg T base n L) {f : Addr} {fd : FuncData} {cdv : Value} (F : FD K "_law_pick" st__law_pick f fd cdv) :
    FnQ false P w K mg base (n + 3) f fd ["_law_state", "_law_some"] (spF K mg T 2 (runF 2 2 (b__law_pick C L))) :=
  fn_ok (N := ["_law_state", "_law_some"]) F sc__law_pick fun A outer s H E fc => by
    exact (sss_one (ss_ret (se_sub fc.u1 (se_slot 1) (se_call hA.f__law_draw fc.hr (fun z => by cases z) fc.tk (sa_cons (se_slot 0) (sa_cons (se_bi cs_len G.b_len bi_len (sa_cons (se_slot 1) sa_nil)) sa_nil))))))
abbrev st__law_plain : Stmt := top 37
theorem sc__law_plain : FnScope ["_law_word", "_law_some"] ["_law_word"] (defScope st__law_plain) := C8.fnScope_by (by decide +kernel)
theorem ok__law_plain (G : Gs K mg) (hA : Oks P w K mg T base (n + 2) C) (hL : Oks P w K mg T base n L) {f : Addr} {fd : FuncData} {cdv : Value} (F : FD K "_law_plain" st__law_plain f fd cdv) :
    FnQ false P w K mg base (n + 3) f fd ["_law_word"] (spF K mg T 1 (runF 2 1 (b__law_plain C L))) :=
  fn_ok (N := ["_law_word", "_law_some"]) F sc__law_plain fun A outer s H E fc => by
    exact (sss_cons (ss_set 1 fc.nd (se_lst (sa_cons (se_mkE G.e_BadBare (se_slot 0)) (sa_cons (se_mkE G.e_BadBoxes (se_slot 0)) (sa_cons (se_mkE G.e_BadEnd (se_slot 0)) (sa_cons (se_mkE G.e_BadHead (se_slot 0)) (sa_cons (se_mkE G.e_BadJournal (se_slot 0)) (sa_cons (se_mkE G.e_BadKind (se_slot 0)) sa_nil))))))))
    (sss_cons (ss_set 1 fc.nd (se_bin os_add (se_slot 1) (se_lst (sa_cons (se_mkE G.e_BadKinds (se_slot 0)) (sa_cons (se_mkE G.e_BadLetter (se_slot 0)) (sa_cons (se_mkE G.e_BadLine (se_slot 0)) (sa_cons (se_mkE G.e_BadMachine (se_slot 0)) (sa_cons (se_mkE G.e_BadMany (se_slot 0)) (sa_cons (se_mkE G.e_BadName (se_slot 0)) sa_nil)))))))))
    (sss_cons (ss_set 1 fc.nd (se_bin os_add (se_slot 1) (se_lst (sa_cons (se_mkE G.e_BadNames (se_slot 0)) (sa_cons (se_mkE G.e_BadNumber (se_slot 0)) (sa_cons (se_mkE G.e_BadPath (se_slot 0)) (sa_cons (se_mkE G.e_BadPattern (se_slot 0)) (sa_cons (se_mkE G.e_BadProgram (se_slot 0)) (sa_cons (se_mkE G.e_BadShape (se_slot 0)) sa_nil)))))))))
    (sss_cons (ss_set 1 fc.nd (se_bin os_add (se_slot 1) (se_lst (sa_cons (se_mkE G.e_BadSurroundings (se_slot 0)) (sa_cons (se_mkE G.e_BadTable (se_slot 0)) (sa_cons (se_mkE G.e_BadTerm (se_slot 0)) (sa_cons (se_mkE G.e_BadText (se_slot 0)) (sa_cons (se_mkE G.e_BadWhich (se_slot 0)) (sa_cons (se_mkE G.e_BadWord (se_slot 0)) sa_nil)))))))))
    (sss_one (ss_ret (se_bin os_add (se_slot 1) (se_lst (sa_cons (se_mkE G.e_BadWords (se_slot 0)) (sa_cons (se_mkE G.e_NoProgram (se_slot 0)) (sa_cons (se_mkE G.e_OtherLetters (se_slot 0)) sa_nil)))))))))))
abbrev st__law_beneath : Stmt := top 38
theorem sc__law_beneath : FnScope ["_law_word", "_law_some"] ["_law_word"] (defScope st__law_beneath) := C8.fnScope_by (by decide +kernel)
theorem ok__law_beneath (G : Gs K mg) (hA : Oks P w K mg T base (n + 2) C) (hL : Oks P w K mg T base n L) {f : Addr} {fd : FuncData} {cdv : Value} (F : FD K "_law_beneath" st__law_beneath f fd cdv) :
    FnQ false P w K mg base (n + 3) f fd ["_law_word"] (spF K mg T 1 (runF 2 1 (b__law_beneath C L))) :=
  fn_ok (N := ["_law_word", "_law_some"]) F sc__law_beneath fun A outer s H E fc => by
    exact (sss_cons (ss_set 1 fc.nd (se_lst (sa_cons (se_bi (cs_isE G.excs) G.b_isinstance bi_isinstance (sa_cons (se_mkE G.e_BadKinds (se_slot 0)) (sa_cons (se_gl2 rfl G.v_BadKind) sa_nil))) (sa_cons (se_bi (cs_isE G.excs) G.b_isinstance bi_isinstance (sa_cons (se_mkE G.e_BadKind (se_slot 0)) (sa_cons (se_gl2 rfl G.v_BadKinds) sa_nil))) sa_nil))))
    (sss_cons (ss_set 1 fc.nd (se_bin os_add (se_slot 1) (se_lst (sa_cons (se_bi (cs_isE G.excs) G.b_isinstance bi_isinstance (sa_cons (se_mkE G.e_BadNames (se_slot 0)) (sa_cons (se_gl2 rfl G.v_BadName) sa_nil))) (sa_cons (se_bi (cs_isE G.excs) G.b_isinstance bi_isinstance (sa_cons (se_mkE G.e_BadName (se_slot 0)) (sa_cons (se_gl2 rfl G.v_BadNames) sa_nil))) sa_nil)))))
    (sss_cons (ss_set 1 fc.nd (se_bin os_add (se_slot 1) (se_lst (sa_cons (se_bi (cs_isE G.excs) G.b_isinstance bi_isinstance (sa_cons (se_mkE G.e_BadWords (se_slot 0)) (sa_cons (se_gl2 rfl G.v_BadWord) sa_nil))) (sa_cons (se_bi (cs_isE G.excs) G.b_isinstance bi_isinstance (sa_cons (se_mkE G.e_BadWord (se_slot 0)) (sa_cons (se_gl2 rfl G.v_BadWords) sa_nil))) sa_nil)))))
    (sss_cons (ss_set 1 fc.nd (se_bin os_add (se_slot 1) (se_lst (sa_cons (se_bi (cs_isE G.excs) G.b_isinstance bi_isinstance (sa_cons (se_mkE G.e_BadHead (se_slot 0)) (sa_cons (se_gl2 rfl G.v_BadProgram) sa_nil))) (sa_cons (se_bi (cs_isE G.excs) G.b_isinstance bi_isinstance (sa_cons (se_mkE G.e_BadProgram (se_slot 0)) (sa_cons (se_gl2 rfl G.v_BadHead) sa_nil))) sa_nil)))))
    (sss_cons (ss_set 1 fc.nd (se_bin os_add (se_slot 1) (se_lst (sa_cons (se_bi (cs_isE G.excs) G.b_isinstance bi_isinstance (sa_cons (se_mkE G.e_BadMany (se_slot 0)) (sa_cons (se_gl2 rfl G.v_BadNumber) sa_nil))) (sa_cons (se_bi (cs_isE G.excs) G.b_isinstance bi_isinstance (sa_cons (se_mkE G.e_BadNumber (se_slot 0)) (sa_cons (se_gl2 rfl G.v_BadMany) sa_nil))) sa_nil)))))
    (sss_one (ss_ret (se_bin os_add (se_slot 1) (se_lst (sa_cons (se_bi (cs_isE G.excs) G.b_isinstance bi_isinstance (sa_cons (se_mkE G.e_NoProgram (se_slot 0)) (sa_cons (se_gl2 rfl G.v_BadProgram) sa_nil))) (sa_cons (se_bi (cs_isE G.excs) G.b_isinstance bi_isinstance (sa_cons (se_mkE G.e_BadText (se_slot 0)) (sa_cons (se_gl2 rfl G.v_BadSigns) sa_nil))) sa_nil)))))))))))
abbrev st_law : Stmt := top 39
theorem sc_law : FnScope ["_law_script", "_law_state", "_law_word", "_law_error", "_law_n"] ["_law_script"] (defScope st_law) := C8.fnScope_by (by decide +kernel)
theorem ok_law (G : Gs K mg) (hA : Oks P w K mg T base (n + 2) C) (hL : Oks P w K mg T base n L) {f : Addr} {fd : FuncData} {cdv : Value} (F : FD K "law" st_law f fd cdv) :
    FnQ false P w K mg base (n + 3) f fd ["_law_script"] (spF K mg T 1 (runF 5 1 (b_law C L))) :=
  fn_ok (N := ["_law_script", "_law_state", "_law_word", "_law_error", "_law_n"]) F sc_law fun A outer s H E fc => by
    exact (sss_cons (ss_set 1 fc.nd (se_call hA.f__law_begun fc.hr (fun z => by cases z) fc.tk (sa_cons (se_slot 0) sa_nil)))
    (sss_cons (ss_set 2 fc.nd (se_call hA.f__law_pick fc.hr (fun z => by cases z) fc.tk (sa_cons (se_slot 1) (sa_cons (se_lst (sa_cons se_str (sa_cons se_str (sa_cons se_str (sa_cons se_str sa_nil))))) sa_nil))))
    (sss_cons (ss_for fc.po fc.calm (si_val (se_call hA.f__law_plain fc.hr (fun z => by cases z) fc.tk (sa_cons (se_slot 2) sa_nil))) (sg_name 3 fc.nd)
    (sss_one (ss_if (st_w (sw_or (st_not (st_val (se_bi (cs_isV G.excs G.excv) G.b_isinstance bi_isinstance (sa_cons (se_slot 3) (sa_cons (se_bty G.b_ValueError bt_ValueError) sa_nil))))) (sw_or (st_not (st_val (se_bi (cs_isE G.excs) G.b_isinstance bi_isinstance (sa_cons (se_slot 3) (sa_cons (se_gl2 rfl G.v_HeadError) sa_nil))))) (sw_or1 (st_val (se_bi (cs_isE G.excs) G.b_isinstance bi_isinstance (sa_cons (se_slot 3) (sa_cons (se_gl2 rfl G.v_TooMany) sa_nil))))))))
    (sss_one (ss_ret se_bl))
    sss_nil)))
    (sss_cons (ss_if (st_cmp (os_in fc.u65) se_bl (se_call hA.f__law_beneath fc.hr (fun z => by cases z) fc.tk (sa_cons (se_slot 2) sa_nil)))
    (sss_one (ss_ret se_bl))
    sss_nil)
    (sss_cons (ss_set 4 fc.nd (se_call hA.f__law_pick fc.hr (fun z => by cases z) fc.tk (sa_cons (se_slot 1) (sa_cons (se_lst (sa_cons se_int (sa_cons se_int (sa_cons se_int (sa_cons se_int (sa_cons se_non sa_nil)))))) sa_nil))))
    (sss_cons (ss_if (st_w (sw_or (st_cmp (os_ne fc.u64) (se_xf (G.x_BadSigns _ _ _) (G.excs.c "BadSigns" (by decide +kernel)) (by decide) (se_mkF (by decide) (G.x_BadSigns _ _ _) (fc.hr.mono (by omega)) (se_slot 4))) (se_slot 4)) (sw_or (st_cmp (os_ne fc.u64) (se_xf (G.x_TooMany _ _ _) (G.excs.c "TooMany" (by decide +kernel)) (by decide) (se_mkFK (by decide) (G.x_TooMany _ _ _) (fc.hr.mono (by omega)) (se_slot 4))) (se_slot 4)) (sw_or1 (st_val (se_bi (cs_isE G.excs) G.b_isinstance bi_isinstance (sa_cons (se_mkF (by decide) (G.x_TooMany _ _ _) (fc.hr.mono (by omega)) (se_slot 4)) (sa_cons (se_gl2 rfl G.v_BadSigns) sa_nil))))))))
    (sss_one (ss_ret se_bl))
    sss_nil)
    (sss_cons (ss_for fc.po fc.calm (si_val (se_lst (sa_cons (se_mkF (by decide) (G.x_Unread _ _ _) (fc.hr.mono (by omega)) (se_slot 2)) (sa_cons (se_mkFK (by decide) (G.x_Unread _ _ _) (fc.hr.mono (by omega)) (se_slot 2)) sa_nil)))) (sg_name 3 fc.nd)
    (sss_one (ss_if (st_w (sw_or (st_cmp (os_ne fc.u64) (se_xf (G.x_Unread _ _ _) (G.excs.c "Unread" (by decide +kernel)) (by decide) (se_slot 3)) (se_slot 2)) (sw_or (st_not (st_val (se_bi (cs_isE G.excs) G.b_isinstance bi_isinstance (sa_cons (se_slot 3) (sa_cons (se_gl2 rfl G.v_HeadError) sa_nil))))) (sw_or1 (st_val (se_bi (cs_isE G.excs) G.b_isinstance bi_isinstance (sa_cons (se_slot 3) (sa_cons (se_gl2 rfl G.v_TooMany) sa_nil))))))))
    (sss_one (ss_ret se_bl))
    sss_nil)))
    (sss_one (ss_ret (se_and (se_bi (cs_isE G.excs) G.b_isinstance bi_isinstance (sa_cons (se_mkF (by decide) (G.x_TooMany _ _ _) (fc.hr.mono (by omega)) (se_slot 4)) (sa_cons (se_gl2 rfl G.v_HeadError) sa_nil))) (se_one (se_bi (cs_isE G.excs) G.b_isinstance bi_isinstance (sa_cons (se_mkFK (by decide) (G.x_BadSigns _ _ _) (fc.hr.mono (by omega)) (se_slot 4)) (sa_cons (se_gl2 rfl G.v_HeadError) sa_nil))))))))))))))
end
end G

set_option linter.all false
set_option maxRecDepth 100000
set_option maxHeartbeats 4000000
namespace G
open PySem PySem.Spec PyProof.Rows L2 Q
/-- the defs that the head tells -/
def fnl : List He.DefD := [dOf "_law_begun" st__law_begun, dOf "_law_blended" st__law_blended, dOf "_law_draw" st__law_draw, dOf "_law_pick" st__law_pick, dOf "_law_plain" st__law_plain, dOf "_law_beneath" st__law_beneath, dOf "law" st_law, mdOf "BadSigns" "__init__" "BadSigns.__init__" (clsAt (top 20) 0), mdOf "TooMany" "__init__" "TooMany.__init__" (clsAt (top 30) 0), mdOf "Unread" "__init__" "Unread.__init__" (clsAt (top 31) 0)]
def glos0 : List Str := ["_law_begun", "_law_blended", "_law_draw", "_law_pick", "_law_plain", "_law_beneath", "law", "HeadError", "BadBare", "BadBoxes", "BadEnd", "BadHead", "BadJournal", "BadKind", "BadKinds", "BadLetter", "BadLine", "BadMachine", "BadMany", "BadName", "BadNames", "BadNumber", "BadPath", "BadPattern", "BadProgram", "BadShape", "BadSigns", "BadSurroundings", "BadTable", "BadTerm"]
def glos1 : List Str := ["BadText", "BadWhich", "BadWord", "BadWords", "NoProgram", "OtherLetters", "TooMany", "Unread"]
def glos : List Str := glos0 ++ glos1
def frees0 : List Str := ["ValueError", "abs", "int", "isinstance", "len"]
def frees : List Str := frees0
def exF (K : PySem.W.Frag) : Bool := glosB K glos && (freesB K frees && (exsB K excSub excs && (exvB K excs && ((He.Fa.exc "BadBare").ok K && ((He.Fa.exc "BadBoxes").ok K && ((He.Fa.exc "BadEnd").ok K && ((He.Fa.exc "BadHead").ok K && ((He.Fa.exc "BadJournal").ok K && ((He.Fa.exc "BadKind").ok K && ((He.Fa.exc "BadKinds").ok K && ((He.Fa.exc "BadLetter").ok K && ((He.Fa.exc "BadLine").ok K && ((He.Fa.exc "BadMachine").ok K && ((He.Fa.exc "BadMany").ok K && ((He.Fa.exc "BadName").ok K && ((He.Fa.exc "BadNames").ok K && ((He.Fa.exc "BadNumber").ok K && ((He.Fa.exc "BadPath").ok K && ((He.Fa.exc "BadPattern").ok K && ((He.Fa.exc "BadProgram").ok K && ((He.Fa.exc "BadShape").ok K && ((He.Fa.exc "BadSurroundings").ok K && ((He.Fa.exc "BadTable").ok K && ((He.Fa.exc "BadTerm").ok K && ((He.Fa.exc "BadText").ok K && ((He.Fa.exc "BadWhich").ok K && ((He.Fa.exc "BadWord").ok K && ((He.Fa.exc "BadWords").ok K && ((He.Fa.exc "NoProgram").ok K && ((He.Fa.exc "OtherLetters").ok K && (exciB K "BadSigns" "at" "HeadError" && (exciB K "TooMany" "most" "HeadError" && (exciB K "Unread" "letter" "HeadError")))))))))))))))))))))))))))))))))
def tfl : List He.Defn := []
def names0 : List Str := ["_law_begun", "_law_blended", "_law_draw", "_law_pick", "_law_plain", "_law_beneath", "HeadError", "BadBare", "BadBoxes", "BadEnd", "BadHead", "BadJournal", "BadKind", "BadKinds", "BadLetter", "BadLine", "BadMachine", "BadMany", "BadName", "BadNames", "BadNumber", "BadPath", "BadPattern", "BadProgram", "BadShape", "BadSigns", "BadSurroundings", "BadTable", "BadTerm", "BadText"]
def names1 : List Str := ["BadWhich", "BadWord", "BadWords", "NoProgram", "OtherLetters", "TooMany", "Unread"]
def names : List Str := names0 ++ names1
abbrev R : PySem.W.OpenRow := PySem.W.OpenLaw.row PySem.Challenge.rw_oneuseheads_k14_errors_made
def tbs : List He.Tab := []
abbrev hk : PySem.W.Hook := hookXS 5 [] fnl tbs tfl exF
def ob (s : PySem.W.SharedT) : He.AlX := obsXS 5 [] fnl tbs tfl exF (HandSHeadRun.getT s)
theorem ob_eq (s : PySem.W.SharedT) : ob s = hk.obs s.abs := obsXS_eq (HandSHeadRun.getT_eq s)
end G

set_option linter.all false
set_option maxRecDepth 100000
set_option maxHeartbeats 4000000
namespace G
open PySem PySem.Spec PyProof.Rows L2 Q
theorem run (w : World) : HandSHeadRun.RunEq R (PySem.W.view R.prog [39]) hk ob 20000 names w := by
  intro os
  kernel_rfl
end G

set_option linter.all false
set_option maxRecDepth 100000
set_option maxHeartbeats 4000000
namespace G
open PySem PySem.Spec PyProof.Rows L2 Q
section
variable {P : Program} {w : World} {K : PySem.W.Frag} {h : Heap} {mg : Str → Option Value} {T : Tb} {base : Heap}
structure Fds (K : PySem.W.Frag) : Prop where
  d__law_begun : ∃ fd cdv, FDx K "_law_begun" st__law_begun fd cdv
  d__law_blended : ∃ fd cdv, FDx K "_law_blended" st__law_blended fd cdv
  d__law_draw : ∃ fd cdv, FDx K "_law_draw" st__law_draw fd cdv
  d__law_pick : ∃ fd cdv, FDx K "_law_pick" st__law_pick fd cdv
  d__law_plain : ∃ fd cdv, FDx K "_law_plain" st__law_plain fd cdv
  d__law_beneath : ∃ fd cdv, FDx K "_law_beneath" st__law_beneath fd cdv
  d_law : ∃ fd cdv, FDx K "law" st_law fd cdv
  y_BadSigns : ∃ fd cdv, FDm K "BadSigns" "__init__" "BadSigns.__init__" (clsAt (top 20) 0) fd cdv
  y_TooMany : ∃ fd cdv, FDm K "TooMany" "__init__" "TooMany.__init__" (clsAt (top 30) 0) fd cdv
  y_Unread : ∃ fd cdv, FDm K "Unread" "__init__" "Unread.__init__" (clsAt (top 31) 0) fd cdv
theorem fds_of (c : He.SaysD [] fnl K) (e : exF K = true) : Fds K where
  d__law_begun := fdx_of c (List.mem_iff_getElem?.mpr ⟨0, rfl⟩)
  d__law_blended := fdx_of c (List.mem_iff_getElem?.mpr ⟨1, rfl⟩)
  d__law_draw := fdx_of c (List.mem_iff_getElem?.mpr ⟨2, rfl⟩)
  d__law_pick := fdx_of c (List.mem_iff_getElem?.mpr ⟨3, rfl⟩)
  d__law_plain := fdx_of c (List.mem_iff_getElem?.mpr ⟨4, rfl⟩)
  d__law_beneath := fdx_of c (List.mem_iff_getElem?.mpr ⟨5, rfl⟩)
  d_law := fdx_of c (List.mem_iff_getElem?.mpr ⟨6, rfl⟩)
  y_BadSigns := fdm_of c (List.mem_iff_getElem?.mpr ⟨7, rfl⟩)
  y_TooMany := fdm_of c (List.mem_iff_getElem?.mpr ⟨8, rfl⟩)
  y_Unread := fdm_of c (List.mem_iff_getElem?.mpr ⟨9, rfl⟩)
theorem oks_zero (D : Fds K) (hm : ∀ x ∈ glos, mg x = some (.ref (He.ga K x))) {k : Nat} : Oks P w K mg T base k zero := by
  constructor
  · obtain ⟨fd, cdv, F⟩ := D.d__law_begun
    exact F.cal (ps := ["_law_script"]) (hm _ (by decide +kernel)) (fun _ _ _ _ _ us hl => match us, hl with | [_], _ => rfl) fn_zero (fun _ _ _ => rfl)
  · obtain ⟨fd, cdv, F⟩ := D.d__law_blended
    exact F.cal (ps := ["_law_state"]) (hm _ (by decide +kernel)) (fun _ _ _ _ _ us hl => match us, hl with | [_], _ => rfl) fn_zero (fun _ _ _ => rfl)
  · obtain ⟨fd, cdv, F⟩ := D.d__law_draw
    exact F.cal (ps := ["_law_state", "_law_room"]) (hm _ (by decide +kernel)) (fun _ _ _ _ _ us hl => match us, hl with | [_, _], _ => rfl) fn_zero (fun _ _ _ => rfl)
  · obtain ⟨fd, cdv, F⟩ := D.d__law_pick
    exact F.cal (ps := ["_law_state", "_law_some"]) (hm _ (by decide +kernel)) (fun _ _ _ _ _ us hl => match us, hl with | [_, _], _ => rfl) fn_zero (fun _ _ _ => rfl)
  · obtain ⟨fd, cdv, F⟩ := D.d__law_plain
    exact F.cal (ps := ["_law_word"]) (hm _ (by decide +kernel)) (fun _ _ _ _ _ us hl => match us, hl with | [_], _ => rfl) fn_zero (fun _ _ _ => rfl)
  · obtain ⟨fd, cdv, F⟩ := D.d__law_beneath
    exact F.cal (ps := ["_law_word"]) (hm _ (by decide +kernel)) (fun _ _ _ _ _ us hl => match us, hl with | [_], _ => rfl) fn_zero (fun _ _ _ => rfl)
  · obtain ⟨fd, cdv, F⟩ := D.d_law
    exact F.cal (ps := ["_law_script"]) (hm _ (by decide +kernel)) (fun _ _ _ _ _ us hl => match us, hl with | [_], _ => rfl) fn_zero (fun _ _ _ => rfl)
theorem oks_step (D : Fds K) (G : Gs K mg) (hm : ∀ x ∈ glos, mg x = some (.ref (He.ga K x))) {n : Nat} {C L : Nat → List Vl → M Vl} (hA : Oks P w K mg T base (n + 2) C) (hL : Oks P w K mg T base n L) : Oks P w K mg T base (n + 3) (step C L) := by
  constructor
  · obtain ⟨fd, cdv, F⟩ := D.d__law_begun
    exact F.cal (ps := ["_law_script"]) (hm _ (by decide +kernel)) (fun _ _ _ _ _ us hl => match us, hl with | [_], _ => rfl) (ok__law_begun G hA hL F.tx) runF_len
  · obtain ⟨fd, cdv, F⟩ := D.d__law_blended
    exact F.cal (ps := ["_law_state"]) (hm _ (by decide +kernel)) (fun _ _ _ _ _ us hl => match us, hl with | [_], _ => rfl) (ok__law_blended G hA hL F.tx) runF_len
  · obtain ⟨fd, cdv, F⟩ := D.d__law_draw
    exact F.cal (ps := ["_law_state", "_law_room"]) (hm _ (by decide +kernel)) (fun _ _ _ _ _ us hl => match us, hl with | [_, _], _ => rfl) (ok__law_draw G hA hL F.tx) runF_len
  · obtain ⟨fd, cdv, F⟩ := D.d__law_pick
    exact F.cal (ps := ["_law_state", "_law_some"]) (hm _ (by decide +kernel)) (fun _ _ _ _ _ us hl => match us, hl with | [_, _], _ => rfl) (ok__law_pick G hA hL F.tx) runF_len
  · obtain ⟨fd, cdv, F⟩ := D.d__law_plain
    exact F.cal (ps := ["_law_word"]) (hm _ (by decide +kernel)) (fun _ _ _ _ _ us hl => match us, hl with | [_], _ => rfl) (ok__law_plain G hA hL F.tx) runF_len
  · obtain ⟨fd, cdv, F⟩ := D.d__law_beneath
    exact F.cal (ps := ["_law_word"]) (hm _ (by decide +kernel)) (fun _ _ _ _ _ us hl => match us, hl with | [_], _ => rfl) (ok__law_beneath G hA hL F.tx) runF_len
  · obtain ⟨fd, cdv, F⟩ := D.d_law
    exact F.cal (ps := ["_law_script"]) (hm _ (by decide +kernel)) (fun _ _ _ _ _ us hl => match us, hl with | [_], _ => rfl) (ok_law G hA hL F.tx) runF_len
theorem oks_lev (D : Fds K) (G : Gs K mg) (hm : ∀ x ∈ glos, mg x = some (.ref (He.ga K x))) : ∀ n, Oks P w K mg T base (n + 2) (lev n).1 ∧ Oks P w K mg T base (n + 1) (lev n).2.1 ∧ Oks P w K mg T base n (lev n).2.2
  | 0 => ⟨oks_zero D hm, oks_zero D hm, oks_zero D hm⟩
  | n + 1 => have ih := oks_lev D G hm n
    ⟨oks_step D G hm ih.1 ih.2.2, ih.1, ih.2.1⟩
theorem gs_of (X : K.In h) (N : h.Ns mainGlobals mg) (D : Fds K) (e : exF K = true) : Gs K mg := by
  unfold exF at e
  obtain ⟨e0, e⟩ := bb e
  obtain ⟨e1, e⟩ := bb e
  obtain ⟨e2, e⟩ := bb e
  obtain ⟨e3, e⟩ := bb e
  obtain ⟨e4, e⟩ := bb e
  obtain ⟨e5, e⟩ := bb e
  obtain ⟨e6, e⟩ := bb e
  obtain ⟨e7, e⟩ := bb e
  obtain ⟨e8, e⟩ := bb e
  obtain ⟨e9, e⟩ := bb e
  obtain ⟨e10, e⟩ := bb e
  obtain ⟨e11, e⟩ := bb e
  obtain ⟨e12, e⟩ := bb e
  obtain ⟨e13, e⟩ := bb e
  obtain ⟨e14, e⟩ := bb e
  obtain ⟨e15, e⟩ := bb e
  obtain ⟨e16, e⟩ := bb e
  obtain ⟨e17, e⟩ := bb e
  obtain ⟨e18, e⟩ := bb e
  obtain ⟨e19, e⟩ := bb e
  obtain ⟨e20, e⟩ := bb e
  obtain ⟨e21, e⟩ := bb e
  obtain ⟨e22, e⟩ := bb e
  obtain ⟨e23, e⟩ := bb e
  obtain ⟨e24, e⟩ := bb e
  obtain ⟨e25, e⟩ := bb e
  obtain ⟨e26, e⟩ := bb e
  obtain ⟨e27, e⟩ := bb e
  obtain ⟨e28, e⟩ := bb e
  obtain ⟨e29, e⟩ := bb e
  obtain ⟨e30, e⟩ := bb e
  obtain ⟨e31, e⟩ := bb e
  obtain ⟨e32, e⟩ := bb e
  have e33 := e
  constructor
  · exact free_at X N e1 (by decide +kernel)
  · exact free_at X N e1 (by decide +kernel)
  · exact free_at X N e1 (by decide +kernel)
  · exact free_at X N e1 (by decide +kernel)
  · exact free_at X N e1 (by decide +kernel)
  · exact ⟨_, glo_at X N e0 (by decide +kernel)⟩
  · exact ⟨_, glo_at X N e0 (by decide +kernel)⟩
  · exact ⟨_, glo_at X N e0 (by decide +kernel)⟩
  · exact ⟨_, glo_at X N e0 (by decide +kernel)⟩
  · exact ⟨_, glo_at X N e0 (by decide +kernel)⟩
  · exact ⟨_, glo_at X N e0 (by decide +kernel)⟩
  · exact ⟨_, glo_at X N e0 (by decide +kernel)⟩
  · exact ⟨_, glo_at X N e0 (by decide +kernel)⟩
  · exact ⟨_, glo_at X N e0 (by decide +kernel)⟩
  · exact ⟨_, glo_at X N e0 (by decide +kernel)⟩
  · exact ⟨_, glo_at X N e0 (by decide +kernel)⟩
  · exact ⟨_, glo_at X N e0 (by decide +kernel)⟩
  · exact ⟨_, glo_at X N e0 (by decide +kernel)⟩
  · exact ⟨_, glo_at X N e0 (by decide +kernel)⟩
  · exact excS_of X N e0 (by decide +kernel) e4
  · exact excS_of X N e0 (by decide +kernel) e5
  · exact excS_of X N e0 (by decide +kernel) e6
  · exact excS_of X N e0 (by decide +kernel) e7
  · exact excS_of X N e0 (by decide +kernel) e8
  · exact excS_of X N e0 (by decide +kernel) e9
  · exact excS_of X N e0 (by decide +kernel) e10
  · exact excS_of X N e0 (by decide +kernel) e11
  · exact excS_of X N e0 (by decide +kernel) e12
  · exact excS_of X N e0 (by decide +kernel) e13
  · exact excS_of X N e0 (by decide +kernel) e14
  · exact excS_of X N e0 (by decide +kernel) e15
  · exact excS_of X N e0 (by decide +kernel) e16
  · exact excS_of X N e0 (by decide +kernel) e17
  · exact excS_of X N e0 (by decide +kernel) e18
  · exact excS_of X N e0 (by decide +kernel) e19
  · exact excS_of X N e0 (by decide +kernel) e20
  · exact excS_of X N e0 (by decide +kernel) e21
  · exact excS_of X N e0 (by decide +kernel) e22
  · exact excS_of X N e0 (by decide +kernel) e23
  · exact excS_of X N e0 (by decide +kernel) e24
  · exact excS_of X N e0 (by decide +kernel) e25
  · exact excS_of X N e0 (by decide +kernel) e26
  · exact excS_of X N e0 (by decide +kernel) e27
  · exact excS_of X N e0 (by decide +kernel) e28
  · exact excS_of X N e0 (by decide +kernel) e29
  · exact excS_of X N e0 (by decide +kernel) e30
  · exact exs_of X N e0 (by decide +kernel) e2
  · exact exv_of X N e0 (by decide +kernel) e3
  · intro P w base
    obtain ⟨fd, cdv, F⟩ := D.y_BadSigns
    exact exci_of X N e0 F (B := "HeadError") (sl := "self") (a := "at") (by decide +kernel) (by decide +kernel) e31 rfl (fun _ _ _ _ _ _ us hl => match us, hl with | [_, _], _ => rfl) (C8.fnScope_by (by decide +kernel)) (by decide +kernel) (by decide +kernel) (by decide +kernel) (by decide) (by decide) (by decide) (by decide) (by decide) (fun _ => rfl)
  · intro P w base
    obtain ⟨fd, cdv, F⟩ := D.y_TooMany
    exact exci_of X N e0 F (B := "HeadError") (sl := "self") (a := "most") (by decide +kernel) (by decide +kernel) e32 rfl (fun _ _ _ _ _ _ us hl => match us, hl with | [_, _], _ => rfl) (C8.fnScope_by (by decide +kernel)) (by decide +kernel) (by decide +kernel) (by decide +kernel) (by decide) (by decide) (by decide) (by decide) (by decide) (fun _ => rfl)
  · intro P w base
    obtain ⟨fd, cdv, F⟩ := D.y_Unread
    exact exci_of X N e0 F (B := "HeadError") (sl := "self") (a := "letter") (by decide +kernel) (by decide +kernel) e33 rfl (fun _ _ _ _ _ _ us hl => match us, hl with | [_, _], _ => rfl) (C8.fnScope_by (by decide +kernel)) (by decide +kernel) (by decide +kernel) (by decide +kernel) (by decide) (by decide) (by decide) (by decide) (by decide) (fun _ => rfl)
end
end G

set_option linter.all false
set_option maxRecDepth 100000
set_option maxHeartbeats 4000000
namespace G
open PySem PySem.Spec PyProof.Rows L2 Q
abbrev NN : Nat := 229
/-- the plain law: what the law computes, of every script -/
def Plain : Prop := ∀ ns : List Int, ns.length ≤ 63 → (∀ z ∈ ns, Builtin.Int.intBits z ≤ 1048576) → ∃ S', (lev NN).1 6 [.ref 0] (S0 ns) = some (.ok (.bl true), S')
theorem law_at (pl : Plain) (l : PySem.W.OpenLaw) (w : World) (mg : Str → Option Value) (fa : Addr) (h : Heap) (Y : hk.says w h) (N : h.Ns mainGlobals mg) (hmg : mg "law" = some (.ref fa)) : ∃ K : PySem.W.Frag, K.In h ∧ LawG l w K (NN + 2) 63 "_law_script" mg fa h := by
  obtain ⟨K, X, c⟩ := Y
  have D : Fds K := fds_of c.t.d c.more
  have e0 := (bb (show (glosB K glos && _) = true from c.more)).1
  have hm : ∀ x ∈ glos, mg x = some (.ref (He.ga K x)) := fun x hx => glo_at X N e0 hx
  have G := gs_of (mg := mg) X N D c.more
  have ea : fa = He.ga K "law" := by
    rw [hm "law" (by decide +kernel)] at hmg
    exact (Value.ref.inj (Option.some.inj hmg)).symm
  subst ea
  obtain ⟨fd, cdv, F⟩ := D.d_law
  refine ⟨K, X, fd, [], spF K mg [] 1 ((lev NN).1 6), ?_, ?_, ?_, fun s u => ?_, fun H a ns h1 h2 h3 h4 => ?_, fun base hK hN hT => ?_⟩
  · exact fun p hp => nomatch hp
  · exact fun p hp => nomatch hp
  · exact fun p hp => nomatch hp
  · obtain ⟨oc, od, kV, doc, pm, an, ct, osl, rfl, lk, hcd⟩ := F.ex
    exact .of_eq rfl
  · exact law_sp (fun p hp => nomatch hp) h4 (pl ns h1 h2)
  · have ok := oks_lev (P := l.prog) (w := w) (base := base) (T := []) D G hm (NN - 1)
    exact (ok_law G ok.1 ok.2.2 F.tx).low
end G
open PySem PySem.W PySem.Calls PyProof.Rows in
theorem G.holds (pl : G.Plain) : PySem.Challenge.rw_oneuseheads_k14_errors_made.Holds := by
  w_on; o_law
  refine HandSHeadRun.head_any (r := G.R) (q := view G.R.prog [39]) (H := G.hk) (ob := G.ob) (M := 20000) (loose := G.names) (d := HandSHeadRun.topDef G.R.prog 39) (kwd := []) G.ob_eq
    (by kernel_rfl) (fun s => by kernel_rfl) G.run (by kernel_rfl) (by kernel_rfl) (by kernel_rfl) (by rfl) (by first | assumption | decide +kernel) (by decide +kernel) ⟨rfl, rfl, rfl, rfl, rfl, by decide +kernel⟩ ?hw ?hc
  case hw => w_witness2
  case hc =>
    refine Q.walk_g (l := PySem.Challenge.rw_oneuseheads_k14_errors_made) (n := 63) (k := G.NN + 2) (x := "_law_script") rfl (by decide) (by kernel_rfl) ⟨rfl, by decide, by decide⟩ ?_
    intro w mg fa h Y N hmg
    have hmg : mg ("law" : PySem.Str) = some (.ref fa) := by
      have e : (HandSHeadRun.topDef G.R.prog 39).name = ("law" : PySem.Str) := by kernel_rfl
      rw [← e]
      exact hmg
    exact G.law_at pl _ w mg fa h Y N hmg
set_option linter.all false
set_option maxRecDepth 100000
set_option maxHeartbeats 4000000
namespace G
open PySem PySem.Spec PyProof.Rows L2 Q

abbrev bigT : Nat := 2 ^ 40
theorem cmulL {i j : Int} (h1 : -(2 ^ 64) < i) (h2 : i < 2 ^ 64) : CMul i j := .inl ⟨h1, h2⟩
theorem cmulR {i j : Int} (h1 : -(2 ^ 64) < j) (h2 : j < 2 ^ 64) : CMul i j := .inr ⟨h1, h2⟩
def primes : List Int := [2147483579, 2147483629, 2147483563]
theorem prime_of {i : Nat} {x : Vl} (h : (primes.map Vl.int)[i]? = some x) : ∃ p : Int, x = .int p ∧ 2147483563 ≤ p ∧ p ≤ 2147483629 := by
  rw [List.getElem?_map] at h
  cases e : primes[i]? with
  | none => rw [e] at h; cases h
  | some p =>
    rw [e] at h; cases h
    refine ⟨p, rfl, ?_⟩
    have := List.mem_of_getElem? e
    simp [primes] at this
    omega
theorem blended_w {n lo d g c T : Nat} {S : Sto} (s : St lo d g c T S) (hT : T < bigT) : wpe ((lev (n + 1)).1 1 [.ref d] S) noE fun r S' => ∃ i : Int, r = .int i ∧ St lo d g c (T + 1) S' ∧ Gr lo S S' ∧ S'.at_ g = S.at_ g := by
  obtain ⟨r0, t, hd, ht0, htT⟩ := s.d_
  have hT' : (t : Int) < 2 ^ 40 := by have : (T : Int) < 2 ^ 40 := by exact_mod_cast hT
                                      omega
  rw [lv__law_blended]
  refine w_run rfl ?_
  unfold b__law_blended
  simp only [w_lst, w_tup, s_aug, w_caught, w_slot, w_c, w_nil, w_cons, w_bin, w_bi, w_tst, w_not, w_and, w_or, w_ite, w_andV, w_orV, w_call, w_callK, w_met, w_ok, wo_some, wo_if, w_if, s_seq, s_if, s_ret, s_exp, s_skip, s_cont, s_break, s_raise, s_set, s_par, startE, List.map_cons, List.map_nil, List.length_cons, List.length_nil, List.replicate, List.cons_append, List.nil_append, List.getElem?_cons_zero, List.getElem?_cons_succ, List.set_cons_zero, List.set_cons_succ, Option.some.injEq, exists_eq_left', exists_eq_left, true_and, and_true, Nat.zero_le, List.zip_cons_cons, List.zip_nil_right, List.foldl_cons, List.foldl_nil, o_get hd get_turn, o_add, s_key, set_key hd, put_turn]
  have s1 : St lo d g c (T + 1) (S.set d (.dic false (stD g c r0 (t + 1)))) := s.setD (by omega) (by push_cast; omega)
  have g1 : Gr lo S (S.set d (.dic false (stD g c r0 (t + 1)))) := Gr.refl.set_low s.dl
  have k1 : (S.set d (.dic false (stD g c r0 (t + 1)))).at_ g = S.at_ g := set_ne (Ne.symm s.dg)
  refine s_for ?_
  simp only [w_it, w_lst, w_tup, s_aug, w_caught, w_slot, w_c, w_nil, w_cons, w_bin, w_bi, w_tst, w_not, w_and, w_or, w_ite, w_andV, w_orV, w_call, w_callK, w_met, w_ok, wo_some, wo_if, w_if, s_seq, s_if, s_ret, s_exp, s_skip, s_cont, s_break, s_raise, s_set, s_par, startE, List.map_cons, List.map_nil, List.length_cons, List.length_nil, List.replicate, List.cons_append, List.nil_append, List.getElem?_cons_zero, List.getElem?_cons_succ, List.set_cons_zero, List.set_cons_succ, Option.some.injEq, exists_eq_left', exists_eq_left, true_and, and_true, Nat.zero_le, List.zip_cons_cons, List.zip_nil_right, List.foldl_cons, List.foldl_nil]
  refine ⟨by decide, .inr (.inl ⟨_, _, rfl, getR_l push_same, primes.map Vl.int, fun i ρ S2 => ∃ (f : Int) (a b e : Option Vl), ρ = [some (.ref d), a, some (.int (t + 1)), some (.int f), b, e] ∧ St lo d g c (T + 1) S2 ∧ Gr lo S S2 ∧ S2.at_ g = S.at_ g ∧ Gr 0 ((S.set d (.dic false (stD g c r0 (t + 1)))).push (.lst [.int 2147483579, .int 2147483629, .int 2147483563])) S2,
    ⟨0, none, none, none, rfl, s1.gr Gr.push, g1.trans Gr.push, ?_, Gr.refl⟩, fun i ρ S2 _ ⟨_, _, _, _, _, _, _, _, gg⟩ => nxL_at (getR_l ((gg.at_ _ (Nat.zero_le _) (Nat.lt_succ_self _)).trans push_same)), ?_, ?_⟩)⟩
  · rw [push_lt (by show g < S.n; have := s.gl; have := s.ln; omega)]; exact k1
  · rintro i x ρ S2 hx ⟨f, a, b, e, rfl, s2, g2, k2, gg⟩
    obtain ⟨p, rfl, hp1, hp2⟩ := prime_of hx
    simp only [gNm, w_lst, w_tup, s_aug, w_caught, w_slot, w_c, w_nil, w_cons, w_bin, w_bi, w_tst, w_not, w_and, w_or, w_ite, w_andV, w_orV, w_call, w_callK, w_met, w_ok, wo_some, wo_if, w_if, s_seq, s_if, s_ret, s_exp, s_skip, s_cont, s_break, s_raise, s_set, s_par, startE, List.map_cons, List.map_nil, List.length_cons, List.length_nil, List.replicate, List.cons_append, List.nil_append, List.getElem?_cons_zero, List.getElem?_cons_succ, List.set_cons_zero, List.set_cons_succ, Option.some.injEq, exists_eq_left', exists_eq_left, true_and, and_true, Nat.zero_le, List.zip_cons_cons, List.zip_nil_right, List.foldl_cons, List.foldl_nil]
    rw [o_mul (cmulL (by decide) (by decide)), o_div ⟨by decide, by decide⟩]
    simp only [o_add]
    have hd2 := s2.d_
    obtain ⟨r2, t2, hd2, _, _⟩ := s2.d_
    obtain ⟨cs, hc2⟩ := s2.c_
    have hb0 : 0 ≤ 48271 * (t + 1) + p / 53 ∧ 48271 * (t + 1) + p / 53 < 2 ^ 60 := by
      have h1 : 0 ≤ p / 53 := Int.ediv_nonneg (by omega) (by decide)
      have h2 : p / 53 ≤ p := Int.ediv_le_self _ (by omega)
      constructor <;> omega
    refine s_for ?_
    simp only [w_it, w_lst, w_tup, s_aug, w_caught, w_slot, w_c, w_nil, w_cons, w_bin, w_bi, w_tst, w_not, w_and, w_or, w_ite, w_andV, w_orV, w_call, w_callK, w_met, w_ok, wo_some, wo_if, w_if, s_seq, s_if, s_ret, s_exp, s_skip, s_cont, s_break, s_raise, s_set, s_par, startE, List.map_cons, List.map_nil, List.length_cons, List.length_nil, List.replicate, List.cons_append, List.nil_append, List.getElem?_cons_zero, List.getElem?_cons_succ, List.set_cons_zero, List.set_cons_succ, Option.some.injEq, exists_eq_left', exists_eq_left, true_and, and_true, Nat.zero_le, List.zip_cons_cons, List.zip_nil_right, List.foldl_cons, List.foldl_nil, o_get hd2 get_cells]
    refine .inr (.inl ⟨_, _, rfl, getR_l hc2, cs.map Vl.int, fun i ρ S3 => ∃ (bl : Int) (e : Option Vl), ρ = [some (.ref d), some (.int p), some (.int (t + 1)), some (.int f), some (.int bl), e] ∧ S3 = S2 ∧ 0 ≤ bl ∧ bl < 2 ^ 60, ⟨_, e, rfl, rfl, hb0.1, hb0.2⟩, fun i ρ S3 _ ⟨_, _, _, z, _, _⟩ => by rw [z]; exact nxL_at (getR_l hc2), ?_, ?_⟩)
    · rintro j y ρ S3 hy ⟨bl, e, rfl, rfl, h1, h2⟩
      rw [List.getElem?_map] at hy
      cases ey : cs[j]? with
      | none => rw [ey] at hy; cases hy
      | some z =>
        rw [ey] at hy; cases hy
        simp only [gNm, w_lst, w_tup, s_aug, w_caught, w_slot, w_c, w_nil, w_cons, w_bin, w_bi, w_tst, w_not, w_and, w_or, w_ite, w_andV, w_orV, w_call, w_callK, w_met, w_ok, wo_some, wo_if, w_if, s_seq, s_if, s_ret, s_exp, s_skip, s_cont, s_break, s_raise, s_set, s_par, startE, List.map_cons, List.map_nil, List.length_cons, List.length_nil, List.replicate, List.cons_append, List.nil_append, List.getElem?_cons_zero, List.getElem?_cons_succ, List.set_cons_zero, List.set_cons_succ, Option.some.injEq, exists_eq_left', exists_eq_left, true_and, and_true, Nat.zero_le, List.zip_cons_cons, List.zip_nil_right, List.foldl_cons, List.foldl_nil]
        rw [o_mul (cmulR (by decide) (by decide))]
        simp only [o_add, o_int]
        rw [o_mod (by omega)]
        have h3 := Int.emod_nonneg (bl * 69621 + z + (t + 1)) (show p ≠ 0 by omega)
        have h4 := Int.emod_lt_of_pos (bl * 69621 + z + (t + 1)) (show 0 < p by omega)
        exact ⟨_, some (.int z), rfl, rfl, h3, by omega⟩
    · rintro ρ S3 ⟨bl, e, rfl, rfl, h1, h2⟩
      simp only [w_lst, w_tup, s_aug, w_caught, w_slot, w_c, w_nil, w_cons, w_bin, w_bi, w_tst, w_not, w_and, w_or, w_ite, w_andV, w_orV, w_call, w_callK, w_met, w_ok, wo_some, wo_if, w_if, s_seq, s_if, s_ret, s_exp, s_skip, s_cont, s_break, s_raise, s_set, s_par, startE, List.map_cons, List.map_nil, List.length_cons, List.length_nil, List.replicate, List.cons_append, List.nil_append, List.getElem?_cons_zero, List.getElem?_cons_succ, List.set_cons_zero, List.set_cons_succ, Option.some.injEq, exists_eq_left', exists_eq_left, true_and, and_true, Nat.zero_le, List.zip_cons_cons, List.zip_nil_right, List.foldl_cons, List.foldl_nil]
      rw [o_mul (cmulR (by decide) (by decide)), o_pow ⟨by decide, by decide, by omega⟩]
      simp only [o_int]
      rw [o_mod (by omega)]
      simp only [o_add]
      exact ⟨_, _, _, _, rfl, s2, g2, k2, gg⟩
  · rintro ρ S2 ⟨f, a, b, e, rfl, s2, g2, k2, _⟩
    simp only [w_lst, w_tup, s_aug, w_caught, w_slot, w_c, w_nil, w_cons, w_bin, w_bi, w_tst, w_not, w_and, w_or, w_ite, w_andV, w_orV, w_call, w_callK, w_met, w_ok, wo_some, wo_if, w_if, s_seq, s_if, s_ret, s_exp, s_skip, s_cont, s_break, s_raise, s_set, s_par, startE, List.map_cons, List.map_nil, List.length_cons, List.length_nil, List.replicate, List.cons_append, List.nil_append, List.getElem?_cons_zero, List.getElem?_cons_succ, List.set_cons_zero, List.set_cons_succ, Option.some.injEq, exists_eq_left', exists_eq_left, true_and, and_true, Nat.zero_le, List.zip_cons_cons, List.zip_nil_right, List.foldl_cons, List.foldl_nil]
    exact ⟨_, rfl, s2, g2, k2⟩
theorem draw_w {n lo d g c T : Nat} {S : Sto} {room : Int} (s : St lo d g c T S) (hT : T < bigT) (h1 : 0 < room) (h2 : room < 1073741824) :
    wpe ((lev (n + 2)).1 2 [.ref d, .int room] S) noE fun r S' => ∃ k : Nat, r = .int k ∧ (k : Int) < room ∧ St lo d g c (T + 1) S' ∧ Gr lo S S' := by
  obtain ⟨r0, t, hd, ht0, htT⟩ := s.d_
  rw [lv__law_draw]
  refine w_run rfl ?_
  unfold b__law_draw
  have tail : ∀ S1, St lo d g c (T + 1) S1 → Gr lo S S1 → wps (sSeq (sAsg (mBin bMod (mBi bInt (mCons (mBin bSub' (mSlot 0) (mC (.str "rest"))) mNil)) (mSlot 1)) (gNm 2))
    (sSeq (sAsg (mBin bDiv (mBin bSub' (mSlot 0) (mC (.str "rest"))) (mSlot 1)) (gSb (mSlot 0) (mC (.str "rest"))))
    (sRet (mSlot 2))) [some (.ref d), some (.int room), none] S1) ⟨fun _ S1 => ∃ k : Nat, Vl.non = .int k ∧ (k : Int) < room ∧ St lo d g c (T + 1) S1 ∧ Gr lo S S1, fun _ _ => False, fun _ _ => False, fun r S' => ∃ k : Nat, r = .int k ∧ (k : Int) < room ∧ St lo d g c (T + 1) S' ∧ Gr lo S S', noE⟩ := fun S1 s1 g1 => by
    obtain ⟨r1, t1, hd1, h3, h4⟩ := s1.d_
    simp only [w_lst, w_tup, s_aug, w_caught, w_slot, w_c, w_nil, w_cons, w_bin, w_bi, w_tst, w_not, w_and, w_or, w_ite, w_andV, w_orV, w_call, w_callK, w_met, w_ok, wo_some, wo_if, w_if, s_seq, s_if, s_ret, s_exp, s_skip, s_cont, s_break, s_raise, s_set, s_par, startE, List.map_cons, List.map_nil, List.length_cons, List.length_nil, List.replicate, List.cons_append, List.nil_append, List.getElem?_cons_zero, List.getElem?_cons_succ, List.set_cons_zero, List.set_cons_succ, Option.some.injEq, exists_eq_left', exists_eq_left, true_and, and_true, Nat.zero_le, List.zip_cons_cons, List.zip_nil_right, List.foldl_cons, List.foldl_nil, o_get hd1 get_rest, o_int]
    rw [o_mod h1]
    simp only [s_key, w_lst, w_tup, s_aug, w_caught, w_slot, w_c, w_nil, w_cons, w_bin, w_bi, w_tst, w_not, w_and, w_or, w_ite, w_andV, w_orV, w_call, w_callK, w_met, w_ok, wo_some, wo_if, w_if, s_seq, s_if, s_ret, s_exp, s_skip, s_cont, s_break, s_raise, s_set, s_par, startE, List.map_cons, List.map_nil, List.length_cons, List.length_nil, List.replicate, List.cons_append, List.nil_append, List.getElem?_cons_zero, List.getElem?_cons_succ, List.set_cons_zero, List.set_cons_succ, Option.some.injEq, exists_eq_left', exists_eq_left, true_and, and_true, Nat.zero_le, List.zip_cons_cons, List.zip_nil_right, List.foldl_cons, List.foldl_nil, o_get hd1 get_rest]
    rw [o_div ⟨h1, h2⟩]
    simp only [set_key hd1, put_rest]
    have q1 := Int.emod_nonneg r1 (show room ≠ 0 by omega)
    have q2 := Int.emod_lt_of_pos r1 h1
    exact ⟨(r1 % room).toNat, by rw [Int.toNat_of_nonneg q1], by rw [Int.toNat_of_nonneg q1]; exact q2, s1.setD h3 h4, g1.set_low s1.dl⟩
  rw [s_seq]
  simp only [w_lst, w_tup, s_aug, w_caught, w_slot, w_c, w_nil, w_cons, w_bin, w_bi, w_tst, w_not, w_and, w_or, w_ite, w_andV, w_orV, w_call, w_callK, w_met, w_ok, wo_some, wo_if, w_if, s_seq, s_if, s_ret, s_exp, s_skip, s_cont, s_break, s_raise, s_set, s_par, startE, List.map_cons, List.map_nil, List.length_cons, List.length_nil, List.replicate, List.cons_append, List.nil_append, List.getElem?_cons_zero, List.getElem?_cons_succ, List.set_cons_zero, List.set_cons_succ, Option.some.injEq, exists_eq_left', exists_eq_left, true_and, and_true, Nat.zero_le, List.zip_cons_cons, List.zip_nil_right, List.foldl_cons, List.foldl_nil, o_get hd get_rest, o_eqi]
  refine ⟨_, rfl, ?_⟩
  by_cases hz : (r0 == 0) = true
  · rw [hz]
    simp only [if_true, s_key, w_lst, w_tup, s_aug, w_caught, w_slot, w_c, w_nil, w_cons, w_bin, w_bi, w_tst, w_not, w_and, w_or, w_ite, w_andV, w_orV, w_call, w_callK, w_met, w_ok, wo_some, wo_if, w_if, s_seq, s_if, s_ret, s_exp, s_skip, s_cont, s_break, s_raise, s_set, s_par, startE, List.map_cons, List.map_nil, List.length_cons, List.length_nil, List.replicate, List.cons_append, List.nil_append, List.getElem?_cons_zero, List.getElem?_cons_succ, List.set_cons_zero, List.set_cons_succ, Option.some.injEq, exists_eq_left', exists_eq_left, true_and, and_true, Nat.zero_le, List.zip_cons_cons, List.zip_nil_right, List.foldl_cons, List.foldl_nil, o_get hd get_great]
    obtain ⟨gs, hg⟩ := s.g_
    have hgl : g < S.n := Nat.lt_of_lt_of_le s.gl s.ln
    rw [o_neNil (lo := 0) (xs := gs.map Vl.int) (by rw [push_lt hgl]; exact hg) dat_ints push_same]
    refine ⟨_, rfl, ?_⟩
    have sp : St lo d g c T (S.push (.lst [])) := s.gr Gr.push
    have hdp : (S.push (.lst [])).at_ d = .dic false (stD g c r0 t) := (push_lt (Nat.lt_of_lt_of_le s.dl s.ln)).trans hd
    have hgp : (S.push (.lst [])).at_ g = .lst (gs.map Vl.int) := (push_lt hgl).trans hg
    cases gs with
    | nil =>
      simp only [List.map_nil, List.isEmpty_nil, Bool.not_true, Bool.false_eq_true, if_false]
      refine wpe_mono (blended_w sp hT) ?_ (fun _ _ _ _ z => z.elim)
      rintro _ S1 ⟨i, rfl, s1, g1, _⟩
      obtain ⟨r1, t1, hd1, h3, h4⟩ := s1.d_
      simp only [set_key hd1, put_rest]
      have z := tail _ (s1.setD (r := i) h3 h4) ((Gr.push.trans g1).set_low s1.dl)
      simp only [w_lst, w_tup, s_aug, w_caught, w_slot, w_c, w_nil, w_cons, w_bin, w_bi, w_tst, w_not, w_and, w_or, w_ite, w_andV, w_orV, w_call, w_callK, w_met, w_ok, wo_some, wo_if, w_if, s_seq, s_if, s_ret, s_exp, s_skip, s_cont, s_break, s_raise, s_set, s_par, startE, List.map_cons, List.map_nil, List.length_cons, List.length_nil, List.replicate, List.cons_append, List.nil_append, List.getElem?_cons_zero, List.getElem?_cons_succ, List.set_cons_zero, List.set_cons_succ, Option.some.injEq, exists_eq_left', exists_eq_left, true_and, and_true, Nat.zero_le, List.zip_cons_cons, List.zip_nil_right, List.foldl_cons, List.foldl_nil, s_key] at z
      exact z
    | cons x xs =>
      simp only [List.map_cons, List.isEmpty_cons, Bool.not_false, if_true, o_get hdp get_great, o_tyl hgp, true_and]
      rw [o_pop0 hgp]
      have s1 := sp.setG (gs := xs)
      obtain ⟨r1, t1, hd1, h3, h4⟩ := s1.d_
      simp only [set_key hd1, put_rest]
      have z := tail _ (s1.setD (r := x) h3 (by omega)) ((Gr.push.set_low s.gl).set_low s.dl)
      simp only [w_lst, w_tup, s_aug, w_caught, w_slot, w_c, w_nil, w_cons, w_bin, w_bi, w_tst, w_not, w_and, w_or, w_ite, w_andV, w_orV, w_call, w_callK, w_met, w_ok, wo_some, wo_if, w_if, s_seq, s_if, s_ret, s_exp, s_skip, s_cont, s_break, s_raise, s_set, s_par, startE, List.map_cons, List.map_nil, List.length_cons, List.length_nil, List.replicate, List.cons_append, List.nil_append, List.getElem?_cons_zero, List.getElem?_cons_succ, List.set_cons_zero, List.set_cons_succ, Option.some.injEq, exists_eq_left', exists_eq_left, true_and, and_true, Nat.zero_le, List.zip_cons_cons, List.zip_nil_right, List.foldl_cons, List.foldl_nil, s_key] at z
      exact z
  · rw [Bool.not_eq_true] at hz
    rw [hz]
    simp only [Bool.false_eq_true, if_false]
    have z := tail S (s.mono (Nat.le_succ _)) Gr.refl
    simp only [w_lst, w_tup, s_aug, w_caught, w_slot, w_c, w_nil, w_cons, w_bin, w_bi, w_tst, w_not, w_and, w_or, w_ite, w_andV, w_orV, w_call, w_callK, w_met, w_ok, wo_some, wo_if, w_if, s_seq, s_if, s_ret, s_exp, s_skip, s_cont, s_break, s_raise, s_set, s_par, startE, List.map_cons, List.map_nil, List.length_cons, List.length_nil, List.replicate, List.cons_append, List.nil_append, List.getElem?_cons_zero, List.getElem?_cons_succ, List.set_cons_zero, List.set_cons_succ, Option.some.injEq, exists_eq_left', exists_eq_left, true_and, and_true, Nat.zero_le, List.zip_cons_cons, List.zip_nil_right, List.foldl_cons, List.foldl_nil, s_key, o_get hd get_rest] at z ⊢
    exact z
/-! ### picks, kinds drawn -/
theorem pick_w {n lo d g c T : Nat} {S : Sto} {r : Nat} {xs : List Vl} (s : St lo d g c T S) (hT : T < bigT) (hr : S.at_ r = .lst xs) (hl : lo ≤ r) (hn : r < S.n) (h1 : xs ≠ []) (h2 : xs.length < 1000000) :
    wpe ((lev (n + 3)).1 3 [.ref d, .ref r] S) noE fun v S' => v ∈ xs ∧ St lo d g c (T + 1) S' ∧ Gr lo S S' := by
  rw [lv__law_pick]
  refine w_run rfl ?_
  unfold b__law_pick
  simp only [w_lst, w_tup, s_aug, w_caught, w_slot, w_c, w_nil, w_cons, w_bin, w_bi, w_tst, w_not, w_and, w_or, w_ite, w_andV, w_orV, w_call, w_callK, w_met, w_ok, wo_some, wo_if, w_if, s_seq, s_if, s_ret, s_exp, s_skip, s_cont, s_break, s_raise, s_set, s_par, startE, List.map_cons, List.map_nil, List.length_cons, List.length_nil, List.replicate, List.cons_append, List.nil_append, List.getElem?_cons_zero, List.getElem?_cons_succ, List.set_cons_zero, List.set_cons_succ, Option.some.injEq, exists_eq_left', exists_eq_left, true_and, and_true, Nat.zero_le, List.zip_cons_cons, List.zip_nil_right, List.foldl_cons, List.foldl_nil, o_lenl hr]
  have hpos : 0 < xs.length := List.length_pos_iff.mpr h1
  refine wpe_mono (draw_w s hT (by omega) (by omega)) ?_ (fun _ _ _ _ z => z.elim)
  rintro _ S1 ⟨k, rfl, hk, s1, g1⟩
  have hr1 : S1.at_ r = .lst xs := (g1.at_ _ hl hn).trans hr
  have hk : k < xs.length := by exact_mod_cast hk
  rw [o_atl (getR_l hr1) (List.getElem?_eq_getElem hk) (by omega) (by unfold getD; rw [hr1])]
  exact ⟨List.getElem_mem _, s1, g1⟩
theorem begun_w {n : Nat} {ns : List Int} (hl : ns.length ≤ 63) : wpe ((lev (n + 1)).1 0 [.ref 0] (S0 ns)) noE fun r S' => r = .ref 2 ∧ St 4 2 1 3 0 S' ∧ S'.at_ 0 = .ro (ns.map Vl.int) := by
  rw [lv__law_begun]
  refine w_run rfl ?_
  unfold b__law_begun
  simp only [w_lst, w_tup, s_aug, w_caught, w_slot, w_c, w_nil, w_cons, w_bin, w_bi, w_tst, w_not, w_and, w_or, w_ite, w_andV, w_orV, w_call, w_callK, w_met, w_ok, wo_some, wo_if, w_if, s_seq, s_if, s_ret, s_exp, s_skip, s_cont, s_break, s_raise, s_set, s_par, startE, List.map_cons, List.map_nil, List.length_cons, List.length_nil, List.replicate, List.cons_append, List.nil_append, List.getElem?_cons_zero, List.getElem?_cons_succ, List.set_cons_zero, List.set_cons_succ, Option.some.injEq, exists_eq_left', exists_eq_left, true_and, and_true, Nat.zero_le, List.zip_cons_cons, List.zip_nil_right, List.foldl_cons, List.foldl_nil]
  refine w_lc ?_
  simp only [w_it, w_lst, w_tup, s_aug, w_caught, w_slot, w_c, w_nil, w_cons, w_bin, w_bi, w_tst, w_not, w_and, w_or, w_ite, w_andV, w_orV, w_call, w_callK, w_met, w_ok, wo_some, wo_if, w_if, s_seq, s_if, s_ret, s_exp, s_skip, s_cont, s_break, s_raise, s_set, s_par, startE, List.map_cons, List.map_nil, List.length_cons, List.length_nil, List.replicate, List.cons_append, List.nil_append, List.getElem?_cons_zero, List.getElem?_cons_succ, List.set_cons_zero, List.set_cons_succ, Option.some.injEq, exists_eq_left', exists_eq_left, true_and, and_true, Nat.zero_le, List.zip_cons_cons, List.zip_nil_right, List.foldl_cons, List.foldl_nil]
  refine .inr (.inl ⟨0, ns.map Vl.int, rfl, rfl, ns.map Vl.int, fun i acc S2 => (∃ gs : List Int, acc = gs.map Vl.int ∧ gs.length ≤ i) ∧ S2.at_ 1 = .lst acc ∧ S2.n = 2 ∧ S2.at_ 0 = .ro (ns.map Vl.int), ⟨⟨[], rfl, Nat.le_refl _⟩, push_same, rfl, rfl⟩, fun i acc S2 _ h => nxL_at (getR_r h.2.2.2), ?_, ?_⟩)
  · rintro i x acc S2 hx ⟨⟨gs, rfl, hg⟩, h1, h2, h3⟩
    have hi : i < ns.length := by
      rw [List.getElem?_eq_some_iff] at hx; simpa using hx.1
    rw [List.getElem?_map, List.getElem?_eq_getElem hi] at hx
    cases hx
    refine ⟨_, rfl, ?_⟩
    simp only [w_lst, w_tup, s_aug, w_caught, w_slot, w_c, w_nil, w_cons, w_bin, w_bi, w_tst, w_not, w_and, w_or, w_ite, w_andV, w_orV, w_call, w_callK, w_met, w_ok, wo_some, wo_if, w_if, s_seq, s_if, s_ret, s_exp, s_skip, s_cont, s_break, s_raise, s_set, s_par, startE, List.map_cons, List.map_nil, List.length_cons, List.length_nil, List.replicate, List.cons_append, List.nil_append, List.getElem?_cons_zero, List.getElem?_cons_succ, List.set_cons_zero, List.set_cons_succ, Option.some.injEq, exists_eq_left', exists_eq_left, true_and, and_true, Nat.zero_le, List.zip_cons_cons, List.zip_nil_right, List.foldl_cons, List.foldl_nil, wipeE, o_abs]
    rw [o_pow ⟨by decide, by decide, by decide⟩]
    simp only [o_ge]
    refine ⟨_, rfl, ?_⟩
    by_cases hc : (10 : Int) ^ (18 : Int).toNat ≤ (if ns[i] < 0 then -ns[i] else ns[i])
    · rw [decide_eq_true hc]
      simp only [if_true]
      rw [o_pow ⟨by decide, by decide, by decide⟩]
      simp only [o_sub]
      refine ⟨h1, ?_, ⟨gs ++ [_], by rw [List.map_append]; rfl, by rw [List.length_append]; simp only [List.length_cons, List.length_nil]; omega⟩, set_same, h2, (set_ne (by show (0 : Nat) ≠ 1; decide)).trans h3⟩
      rw [List.length_map, show sizeLine = 16777216 from rfl]; omega
    · rw [decide_eq_false hc]
      simp only [Bool.false_eq_true, if_false]
      exact ⟨⟨gs, rfl, by omega⟩, h1, h2, h3⟩
  · rintro acc S2 ⟨⟨gs, rfl, hg⟩, h1, h2, h3⟩
    refine w_disp ?_
    simp only [w_pairs, w_pairs0, w_lst, w_tup, s_aug, w_caught, w_slot, w_c, w_nil, w_cons, w_bin, w_bi, w_tst, w_not, w_and, w_or, w_ite, w_andV, w_orV, w_call, w_callK, w_met, w_ok, wo_some, wo_if, w_if, s_seq, s_if, s_ret, s_exp, s_skip, s_cont, s_break, s_raise, s_set, s_par, startE, List.map_cons, List.map_nil, List.length_cons, List.length_nil, List.replicate, List.cons_append, List.nil_append, List.getElem?_cons_zero, List.getElem?_cons_succ, List.set_cons_zero, List.set_cons_succ, Option.some.injEq, exists_eq_left', exists_eq_left, true_and, and_true, Nat.zero_le, List.zip_cons_cons, List.zip_nil_right, List.foldl_cons, List.foldl_nil]
    refine w_lcmap ?_
    simp only [w_it, w_lst, w_tup, s_aug, w_caught, w_slot, w_c, w_nil, w_cons, w_bin, w_bi, w_tst, w_not, w_and, w_or, w_ite, w_andV, w_orV, w_call, w_callK, w_met, w_ok, wo_some, wo_if, w_if, s_seq, s_if, s_ret, s_exp, s_skip, s_cont, s_break, s_raise, s_set, s_par, startE, List.map_cons, List.map_nil, List.length_cons, List.length_nil, List.replicate, List.cons_append, List.nil_append, List.getElem?_cons_zero, List.getElem?_cons_succ, List.set_cons_zero, List.set_cons_succ, Option.some.injEq, exists_eq_left', exists_eq_left, true_and, and_true, Nat.zero_le, List.zip_cons_cons, List.zip_nil_right, List.foldl_cons, List.foldl_nil]
    have hn : (S2.push (.dic false [])).n = 3 := by show S2.n + 1 = 3; omega
    have a0 : (S2.push (.dic false [])).at_ 0 = .ro (ns.map Vl.int) := (push_lt (by omega)).trans h3
    refine .inr (.inl ⟨0, ns.map Vl.int, rfl, getR_r a0, ns.map Vl.int, ns.map fun z => .int (if z < 0 then -z else z), by rw [List.length_map, List.length_map], by rw [List.length_map]; omega, fun i S3 _ g => nxL_at (getR_r ((g.at_ 0 (Nat.zero_le _) (by omega)).trans a0)), ?_, ?_⟩)
    · rintro i x y S3 hx hy g
      rw [List.getElem?_map] at hx hy
      cases e : ns[i]? with
      | none => rw [e] at hx; cases hx
      | some z =>
        rw [e] at hx hy; cases hx; cases hy
        refine ⟨_, rfl, ?_⟩
        simp only [w_true, true_and, w_lst, w_tup, s_aug, w_caught, w_slot, w_c, w_nil, w_cons, w_bin, w_bi, w_tst, w_not, w_and, w_or, w_ite, w_andV, w_orV, w_call, w_callK, w_met, w_ok, wo_some, wo_if, w_if, s_seq, s_if, s_ret, s_exp, s_skip, s_cont, s_break, s_raise, s_set, s_par, startE, List.map_cons, List.map_nil, List.length_cons, List.length_nil, List.replicate, List.cons_append, List.nil_append, List.getElem?_cons_zero, List.getElem?_cons_succ, List.set_cons_zero, List.set_cons_succ, Option.some.injEq, exists_eq_left', exists_eq_left, true_and, and_true, Nat.zero_le, List.zip_cons_cons, List.zip_nil_right, List.foldl_cons, List.foldl_nil, wipeE, o_abs]
        first | exact ⟨Gr.refl, Gr.refl⟩ | exact Gr.refl
    · intro S3 g hn3 hs3
      have hdd : (S2.push (.dic false [])).at_ S2.n = .dic false [] := push_same
      have e1 : S3.at_ S2.n = .dic false [] := (g.at_ _ (Nat.zero_le _) (Nat.lt_succ_self _)).trans hdd
      refine ⟨e1, by decide, rfl, ?_, ?_, ?_⟩
      · rw [h2]
      · rw [stD_merge, h2, hn]
        rw [hn] at hs3 hn3
        have g1 : S3.at_ 1 = .lst (gs.map Vl.int) := (g.at_ 1 (Nat.zero_le _) (by omega)).trans ((push_lt (by omega)).trans h1)
        exact ⟨⟨0, 0, set_same, by decide, by decide⟩, ⟨gs, (set_ne (by decide)).trans g1⟩, ⟨ns.map fun z => if z < 0 then -z else z, by rw [set_ne (by decide), hs3, List.map_map]; rfl⟩, by decide, by decide, by decide, by decide, by decide, by decide, by show 4 ≤ S3.n; omega⟩
      · rw [h2, set_ne (by decide)]
        exact (g.at_ 0 (Nat.zero_le _) (by omega)).trans a0
theorem s_cut {a b : MS} {ρ : En} {S : Sto} {D : End_} (Mid : En → Sto → Prop) (h1 : wps (a ρ S) ⟨Mid, D.bk, D.ct, D.rt, D.ex⟩) (h2 : ∀ ρ1 S1, Mid ρ1 S1 → wps (b ρ1 S1) D) : wps (sSeq a b ρ S) D := by
  rw [s_seq]
  exact wps_mono h1 h2 (fun _ _ z => z) (fun _ _ z => z) (fun _ _ z => z) (fun _ _ _ _ z => z)
theorem lenL {n : Nat} (h : n ≤ 1000000) : n ≤ sizeLine := by rw [show sizeLine = 16777216 from rfl]; omega
theorem a_mkE {c : Str} {f : En → M Vl} {ρ : En} {S : Sto} {E : XP} {Z : Vl → Sto → Prop} (q : wpe (f ρ S) E fun _ S1 => Z (.exc c "" .non) S1) : wpe (mMkE c f ρ S) E Z := by
  unfold mMkE
  rw [w_bnd]
  exact q
theorem a_mkF {c f : Str} {fe : En → M Vl} {ρ : En} {S : Sto} {E : XP} {Z : Vl → Sto → Prop} (q : wpe (fe ρ S) E fun v S1 => fmOk v = true ∧ Z (.exc c f v) S1) : wpe (mMkF c f fe ρ S) E Z := by
  unfold mMkF
  rw [w_bnd]
  refine wpe_mono q ?_ (fun _ _ _ _ z => z)
  rintro v S1 ⟨h1, h2⟩
  rw [if_pos h1]
  exact h2
theorem a_isE {c g d : Str} {v : Vl} {b : Bool} {S : Sto} {Z : Vl → Sto → Prop} (h : decide (c ∈ excs ∧ d ∈ excs) = true) (hb : decide ((c, d) ∈ excSub) = b) (q : Z (.bl b) S) : wpo (bIsE excSub excs [.exc c g v, .gl d] S) Z := by
  have e : bIsE excSub excs [.exc c g v, .gl d] S = some (.bl (decide ((c, d) ∈ excSub)), S) := by
    simp only [bIsE]
    rw [if_pos (of_decide_eq_true h)]
  rw [e, hb]
  exact q
theorem a_isE0 {c g d : Str} {v : Vl} {S : Sto} {Z : Vl → Sto → Prop} (h : decide (c ∈ excs ∧ d ∈ excs) = true) (hb : decide ((c, d) ∈ excSub) = false) (q : Z (.bl false) S) : wpo (bIsE excSub excs [.exc c g v, .gl d] S) Z := a_isE h hb q
theorem a_isV {c g : Str} {v : Vl} {S : Sto} {Z : Vl → Sto → Prop} (h : c ∈ excs) (q : Z (.bl true) S) : wpo (bIsV excs [.exc c g v, .ty "ValueError"] S) Z := by
  have e : bIsV excs [.exc c g v, .ty "ValueError"] S = some (.bl true, S) := by
    simp only [bIsV]
    rw [if_pos h]
  rw [e]
  exact q
def plainC : List Str := ["BadBare", "BadBoxes", "BadEnd", "BadHead", "BadJournal", "BadKind", "BadKinds", "BadLetter", "BadLine", "BadMachine", "BadMany", "BadName", "BadNames", "BadNumber", "BadPath", "BadPattern", "BadProgram", "BadShape", "BadSurroundings", "BadTable", "BadTerm", "BadText", "BadWhich", "BadWord", "BadWords", "NoProgram", "OtherLetters"]
def excV (c : Str) : Vl := .exc c "" .non
theorem plain_facts : ∀ c ∈ plainC, decide (c ∈ excs) = true ∧ decide (c ∈ excs ∧ ("HeadError" : Str) ∈ excs) = true ∧ decide ((c, ("HeadError" : Str)) ∈ excSub) = true ∧ decide (c ∈ excs ∧ ("TooMany" : Str) ∈ excs) = true ∧ decide ((c, ("TooMany" : Str)) ∈ excSub) = false := by decide +kernel
theorem o_addc {S : Sto} {a b : Nat} {xs ys : List Vl} {Z : Vl → Sto → Prop} (h1 : S.at_ a = .lst xs) (h2 : S.at_ b = .lst ys) (hl : xs.length + ys.length ≤ 1000) (hz : Z (.ref S.n) (S.push (.lst (xs ++ ys)))) : wpo (bAdd (.ref a) (.ref b) S) Z := by
  rw [o_addl h1 h2]
  exact ⟨lenL (by omega), hz⟩
theorem plain_w {n : Nat} {S : Sto} {w : Str} : wpe ((lev (n + 1)).1 4 [.str w] S) noE fun r S' => ∃ k, r = .ref k ∧ S.n ≤ k ∧ k < S'.n ∧ S'.at_ k = .lst (plainC.map excV) ∧ Gr 0 S S' := by
  rw [lv__law_plain]
  refine w_run rfl ?_
  unfold b__law_plain
  repeat first | (with_reducible refine a_mkE ?_) | (with_reducible refine a_isE0 (by decide +kernel) (by decide +kernel) ?_) | (with_reducible first | refine a_c ?_ | refine a_nil ?_ | refine a_cons ?_) | (with_reducible refine a_slot ?_; refine ⟨_, rfl, ?_⟩) | (with_reducible first | refine a_bin ?_ | refine a_bi ?_ | refine a_tup ?_ | refine a_lst ?_ | refine a_tst ?_ | refine a_not ?_ | refine a_and ?_ | refine a_or ?_ | refine a_ite ?_ | refine a_andV ?_ | refine a_orV ?_ | refine a_call ?_ | refine a_callK ?_ | refine a_met ?_ | refine a_sl ?_ | refine a_no ?_ | refine a_so ?_ | refine a_exi ?_ | refine a_neg ?_ | refine a_rev ?_ | refine a_gnm ?_ | refine a_gt2 ?_ | refine a_u0 ?_ | refine a_u1 ?_ | refine a_let ?_ | refine a_do ?_ | refine a_pars ?_ | refine a_rets ?_ | refine a_ifs ?_ | refine a_skips ?_ | refine a_set ?_ | refine a_exp ?_ | refine a_ret ?_ | refine a_if ?_ | refine a_par ?_ | refine a_as ?_ | refine a_bl ?_ | refine g_at0 ?_ | refine g_at1 ?_ | refine g_at2 ?_ | refine g_at3 ?_ | refine g_strs ?_ | refine g_nstr ?_ | refine g_eqi ?_ | refine g_nei ?_ | refine g_add ?_ | refine g_sub ?_ | refine g_gt ?_ | refine g_ge ?_ | refine g_lt ?_ | refine g_le ?_ | refine g_isn ?_ | refine g_isb ?_ | refine g_isnb ?_ | refine g_lent ?_ | refine g_int ?_) | refine ⟨(lenL (by simp only [List.length_cons, List.length_nil]; omega) : List.length _ ≤ sizeLine), ?_⟩
  refine o_addc ((push_lt (Nat.lt_succ_self _)).trans push_same) push_same (by simp) ?_
  repeat first | (with_reducible refine a_mkE ?_) | (with_reducible refine a_isE0 (by decide +kernel) (by decide +kernel) ?_) | (with_reducible first | refine a_c ?_ | refine a_nil ?_ | refine a_cons ?_) | (with_reducible refine a_slot ?_; refine ⟨_, rfl, ?_⟩) | (with_reducible first | refine a_bin ?_ | refine a_bi ?_ | refine a_tup ?_ | refine a_lst ?_ | refine a_tst ?_ | refine a_not ?_ | refine a_and ?_ | refine a_or ?_ | refine a_ite ?_ | refine a_andV ?_ | refine a_orV ?_ | refine a_call ?_ | refine a_callK ?_ | refine a_met ?_ | refine a_sl ?_ | refine a_no ?_ | refine a_so ?_ | refine a_exi ?_ | refine a_neg ?_ | refine a_rev ?_ | refine a_gnm ?_ | refine a_gt2 ?_ | refine a_u0 ?_ | refine a_u1 ?_ | refine a_let ?_ | refine a_do ?_ | refine a_pars ?_ | refine a_rets ?_ | refine a_ifs ?_ | refine a_skips ?_ | refine a_set ?_ | refine a_exp ?_ | refine a_ret ?_ | refine a_if ?_ | refine a_par ?_ | refine a_as ?_ | refine a_bl ?_ | refine g_at0 ?_ | refine g_at1 ?_ | refine g_at2 ?_ | refine g_at3 ?_ | refine g_strs ?_ | refine g_nstr ?_ | refine g_eqi ?_ | refine g_nei ?_ | refine g_add ?_ | refine g_sub ?_ | refine g_gt ?_ | refine g_ge ?_ | refine g_lt ?_ | refine g_le ?_ | refine g_isn ?_ | refine g_isb ?_ | refine g_isnb ?_ | refine g_lent ?_ | refine g_int ?_) | refine ⟨(lenL (by simp only [List.length_cons, List.length_nil]; omega) : List.length _ ≤ sizeLine), ?_⟩
  refine o_addc ((push_lt (Nat.lt_succ_self _)).trans push_same) push_same (by simp) ?_
  repeat first | (with_reducible refine a_mkE ?_) | (with_reducible refine a_isE0 (by decide +kernel) (by decide +kernel) ?_) | (with_reducible first | refine a_c ?_ | refine a_nil ?_ | refine a_cons ?_) | (with_reducible refine a_slot ?_; refine ⟨_, rfl, ?_⟩) | (with_reducible first | refine a_bin ?_ | refine a_bi ?_ | refine a_tup ?_ | refine a_lst ?_ | refine a_tst ?_ | refine a_not ?_ | refine a_and ?_ | refine a_or ?_ | refine a_ite ?_ | refine a_andV ?_ | refine a_orV ?_ | refine a_call ?_ | refine a_callK ?_ | refine a_met ?_ | refine a_sl ?_ | refine a_no ?_ | refine a_so ?_ | refine a_exi ?_ | refine a_neg ?_ | refine a_rev ?_ | refine a_gnm ?_ | refine a_gt2 ?_ | refine a_u0 ?_ | refine a_u1 ?_ | refine a_let ?_ | refine a_do ?_ | refine a_pars ?_ | refine a_rets ?_ | refine a_ifs ?_ | refine a_skips ?_ | refine a_set ?_ | refine a_exp ?_ | refine a_ret ?_ | refine a_if ?_ | refine a_par ?_ | refine a_as ?_ | refine a_bl ?_ | refine g_at0 ?_ | refine g_at1 ?_ | refine g_at2 ?_ | refine g_at3 ?_ | refine g_strs ?_ | refine g_nstr ?_ | refine g_eqi ?_ | refine g_nei ?_ | refine g_add ?_ | refine g_sub ?_ | refine g_gt ?_ | refine g_ge ?_ | refine g_lt ?_ | refine g_le ?_ | refine g_isn ?_ | refine g_isb ?_ | refine g_isnb ?_ | refine g_lent ?_ | refine g_int ?_) | refine ⟨(lenL (by simp only [List.length_cons, List.length_nil]; omega) : List.length _ ≤ sizeLine), ?_⟩
  refine o_addc ((push_lt (Nat.lt_succ_self _)).trans push_same) push_same (by simp) ?_
  repeat first | (with_reducible refine a_mkE ?_) | (with_reducible refine a_isE0 (by decide +kernel) (by decide +kernel) ?_) | (with_reducible first | refine a_c ?_ | refine a_nil ?_ | refine a_cons ?_) | (with_reducible refine a_slot ?_; refine ⟨_, rfl, ?_⟩) | (with_reducible first | refine a_bin ?_ | refine a_bi ?_ | refine a_tup ?_ | refine a_lst ?_ | refine a_tst ?_ | refine a_not ?_ | refine a_and ?_ | refine a_or ?_ | refine a_ite ?_ | refine a_andV ?_ | refine a_orV ?_ | refine a_call ?_ | refine a_callK ?_ | refine a_met ?_ | refine a_sl ?_ | refine a_no ?_ | refine a_so ?_ | refine a_exi ?_ | refine a_neg ?_ | refine a_rev ?_ | refine a_gnm ?_ | refine a_gt2 ?_ | refine a_u0 ?_ | refine a_u1 ?_ | refine a_let ?_ | refine a_do ?_ | refine a_pars ?_ | refine a_rets ?_ | refine a_ifs ?_ | refine a_skips ?_ | refine a_set ?_ | refine a_exp ?_ | refine a_ret ?_ | refine a_if ?_ | refine a_par ?_ | refine a_as ?_ | refine a_bl ?_ | refine g_at0 ?_ | refine g_at1 ?_ | refine g_at2 ?_ | refine g_at3 ?_ | refine g_strs ?_ | refine g_nstr ?_ | refine g_eqi ?_ | refine g_nei ?_ | refine g_add ?_ | refine g_sub ?_ | refine g_gt ?_ | refine g_ge ?_ | refine g_lt ?_ | refine g_le ?_ | refine g_isn ?_ | refine g_isb ?_ | refine g_isnb ?_ | refine g_lent ?_ | refine g_int ?_) | refine ⟨(lenL (by simp only [List.length_cons, List.length_nil]; omega) : List.length _ ≤ sizeLine), ?_⟩
  refine o_addc ((push_lt (Nat.lt_succ_self _)).trans push_same) push_same (by simp) ?_
  repeat first | (with_reducible refine a_mkE ?_) | (with_reducible refine a_isE0 (by decide +kernel) (by decide +kernel) ?_) | (with_reducible first | refine a_c ?_ | refine a_nil ?_ | refine a_cons ?_) | (with_reducible refine a_slot ?_; refine ⟨_, rfl, ?_⟩) | (with_reducible first | refine a_bin ?_ | refine a_bi ?_ | refine a_tup ?_ | refine a_lst ?_ | refine a_tst ?_ | refine a_not ?_ | refine a_and ?_ | refine a_or ?_ | refine a_ite ?_ | refine a_andV ?_ | refine a_orV ?_ | refine a_call ?_ | refine a_callK ?_ | refine a_met ?_ | refine a_sl ?_ | refine a_no ?_ | refine a_so ?_ | refine a_exi ?_ | refine a_neg ?_ | refine a_rev ?_ | refine a_gnm ?_ | refine a_gt2 ?_ | refine a_u0 ?_ | refine a_u1 ?_ | refine a_let ?_ | refine a_do ?_ | refine a_pars ?_ | refine a_rets ?_ | refine a_ifs ?_ | refine a_skips ?_ | refine a_set ?_ | refine a_exp ?_ | refine a_ret ?_ | refine a_if ?_ | refine a_par ?_ | refine a_as ?_ | refine a_bl ?_ | refine g_at0 ?_ | refine g_at1 ?_ | refine g_at2 ?_ | refine g_at3 ?_ | refine g_strs ?_ | refine g_nstr ?_ | refine g_eqi ?_ | refine g_nei ?_ | refine g_add ?_ | refine g_sub ?_ | refine g_gt ?_ | refine g_ge ?_ | refine g_lt ?_ | refine g_le ?_ | refine g_isn ?_ | refine g_isb ?_ | refine g_isnb ?_ | refine g_lent ?_ | refine g_int ?_) | refine ⟨(lenL (by simp only [List.length_cons, List.length_nil]; omega) : List.length _ ≤ sizeLine), ?_⟩
  refine ⟨_, rfl, ?_, Nat.lt_succ_self _, push_same, ?_⟩
  · refine Gr.n (lo := 0) ?_
    repeat (first | exact Gr.push | refine Gr.trans ?_ Gr.push)
  · repeat (first | exact Gr.push | refine Gr.trans ?_ Gr.push)
def ffs : List Vl := List.replicate 12 (.bl false)
theorem beneath_w {n : Nat} {S : Sto} {w : Str} : wpe ((lev (n + 1)).1 5 [.str w] S) noE fun r S' => ∃ k, r = .ref k ∧ S.n ≤ k ∧ k < S'.n ∧ S'.at_ k = .lst ffs ∧ Gr 0 S S' := by
  rw [lv__law_beneath]
  refine w_run rfl ?_
  unfold b__law_beneath
  repeat first | (with_reducible refine a_mkE ?_) | (with_reducible refine a_isE0 (by decide +kernel) (by decide +kernel) ?_) | (with_reducible first | refine a_c ?_ | refine a_nil ?_ | refine a_cons ?_) | (with_reducible refine a_slot ?_; refine ⟨_, rfl, ?_⟩) | (with_reducible first | refine a_bin ?_ | refine a_bi ?_ | refine a_tup ?_ | refine a_lst ?_ | refine a_tst ?_ | refine a_not ?_ | refine a_and ?_ | refine a_or ?_ | refine a_ite ?_ | refine a_andV ?_ | refine a_orV ?_ | refine a_call ?_ | refine a_callK ?_ | refine a_met ?_ | refine a_sl ?_ | refine a_no ?_ | refine a_so ?_ | refine a_exi ?_ | refine a_neg ?_ | refine a_rev ?_ | refine a_gnm ?_ | refine a_gt2 ?_ | refine a_u0 ?_ | refine a_u1 ?_ | refine a_let ?_ | refine a_do ?_ | refine a_pars ?_ | refine a_rets ?_ | refine a_ifs ?_ | refine a_skips ?_ | refine a_set ?_ | refine a_exp ?_ | refine a_ret ?_ | refine a_if ?_ | refine a_par ?_ | refine a_as ?_ | refine a_bl ?_ | refine g_at0 ?_ | refine g_at1 ?_ | refine g_at2 ?_ | refine g_at3 ?_ | refine g_strs ?_ | refine g_nstr ?_ | refine g_eqi ?_ | refine g_nei ?_ | refine g_add ?_ | refine g_sub ?_ | refine g_gt ?_ | refine g_ge ?_ | refine g_lt ?_ | refine g_le ?_ | refine g_isn ?_ | refine g_isb ?_ | refine g_isnb ?_ | refine g_lent ?_ | refine g_int ?_) | refine ⟨(lenL (by simp only [List.length_cons, List.length_nil]; omega) : List.length _ ≤ sizeLine), ?_⟩
  refine o_addc ((push_lt (Nat.lt_succ_self _)).trans push_same) push_same (by simp) ?_
  repeat first | (with_reducible refine a_mkE ?_) | (with_reducible refine a_isE0 (by decide +kernel) (by decide +kernel) ?_) | (with_reducible first | refine a_c ?_ | refine a_nil ?_ | refine a_cons ?_) | (with_reducible refine a_slot ?_; refine ⟨_, rfl, ?_⟩) | (with_reducible first | refine a_bin ?_ | refine a_bi ?_ | refine a_tup ?_ | refine a_lst ?_ | refine a_tst ?_ | refine a_not ?_ | refine a_and ?_ | refine a_or ?_ | refine a_ite ?_ | refine a_andV ?_ | refine a_orV ?_ | refine a_call ?_ | refine a_callK ?_ | refine a_met ?_ | refine a_sl ?_ | refine a_no ?_ | refine a_so ?_ | refine a_exi ?_ | refine a_neg ?_ | refine a_rev ?_ | refine a_gnm ?_ | refine a_gt2 ?_ | refine a_u0 ?_ | refine a_u1 ?_ | refine a_let ?_ | refine a_do ?_ | refine a_pars ?_ | refine a_rets ?_ | refine a_ifs ?_ | refine a_skips ?_ | refine a_set ?_ | refine a_exp ?_ | refine a_ret ?_ | refine a_if ?_ | refine a_par ?_ | refine a_as ?_ | refine a_bl ?_ | refine g_at0 ?_ | refine g_at1 ?_ | refine g_at2 ?_ | refine g_at3 ?_ | refine g_strs ?_ | refine g_nstr ?_ | refine g_eqi ?_ | refine g_nei ?_ | refine g_add ?_ | refine g_sub ?_ | refine g_gt ?_ | refine g_ge ?_ | refine g_lt ?_ | refine g_le ?_ | refine g_isn ?_ | refine g_isb ?_ | refine g_isnb ?_ | refine g_lent ?_ | refine g_int ?_) | refine ⟨(lenL (by simp only [List.length_cons, List.length_nil]; omega) : List.length _ ≤ sizeLine), ?_⟩
  refine o_addc ((push_lt (Nat.lt_succ_self _)).trans push_same) push_same (by simp) ?_
  repeat first | (with_reducible refine a_mkE ?_) | (with_reducible refine a_isE0 (by decide +kernel) (by decide +kernel) ?_) | (with_reducible first | refine a_c ?_ | refine a_nil ?_ | refine a_cons ?_) | (with_reducible refine a_slot ?_; refine ⟨_, rfl, ?_⟩) | (with_reducible first | refine a_bin ?_ | refine a_bi ?_ | refine a_tup ?_ | refine a_lst ?_ | refine a_tst ?_ | refine a_not ?_ | refine a_and ?_ | refine a_or ?_ | refine a_ite ?_ | refine a_andV ?_ | refine a_orV ?_ | refine a_call ?_ | refine a_callK ?_ | refine a_met ?_ | refine a_sl ?_ | refine a_no ?_ | refine a_so ?_ | refine a_exi ?_ | refine a_neg ?_ | refine a_rev ?_ | refine a_gnm ?_ | refine a_gt2 ?_ | refine a_u0 ?_ | refine a_u1 ?_ | refine a_let ?_ | refine a_do ?_ | refine a_pars ?_ | refine a_rets ?_ | refine a_ifs ?_ | refine a_skips ?_ | refine a_set ?_ | refine a_exp ?_ | refine a_ret ?_ | refine a_if ?_ | refine a_par ?_ | refine a_as ?_ | refine a_bl ?_ | refine g_at0 ?_ | refine g_at1 ?_ | refine g_at2 ?_ | refine g_at3 ?_ | refine g_strs ?_ | refine g_nstr ?_ | refine g_eqi ?_ | refine g_nei ?_ | refine g_add ?_ | refine g_sub ?_ | refine g_gt ?_ | refine g_ge ?_ | refine g_lt ?_ | refine g_le ?_ | refine g_isn ?_ | refine g_isb ?_ | refine g_isnb ?_ | refine g_lent ?_ | refine g_int ?_) | refine ⟨(lenL (by simp only [List.length_cons, List.length_nil]; omega) : List.length _ ≤ sizeLine), ?_⟩
  refine o_addc ((push_lt (Nat.lt_succ_self _)).trans push_same) push_same (by simp) ?_
  repeat first | (with_reducible refine a_mkE ?_) | (with_reducible refine a_isE0 (by decide +kernel) (by decide +kernel) ?_) | (with_reducible first | refine a_c ?_ | refine a_nil ?_ | refine a_cons ?_) | (with_reducible refine a_slot ?_; refine ⟨_, rfl, ?_⟩) | (with_reducible first | refine a_bin ?_ | refine a_bi ?_ | refine a_tup ?_ | refine a_lst ?_ | refine a_tst ?_ | refine a_not ?_ | refine a_and ?_ | refine a_or ?_ | refine a_ite ?_ | refine a_andV ?_ | refine a_orV ?_ | refine a_call ?_ | refine a_callK ?_ | refine a_met ?_ | refine a_sl ?_ | refine a_no ?_ | refine a_so ?_ | refine a_exi ?_ | refine a_neg ?_ | refine a_rev ?_ | refine a_gnm ?_ | refine a_gt2 ?_ | refine a_u0 ?_ | refine a_u1 ?_ | refine a_let ?_ | refine a_do ?_ | refine a_pars ?_ | refine a_rets ?_ | refine a_ifs ?_ | refine a_skips ?_ | refine a_set ?_ | refine a_exp ?_ | refine a_ret ?_ | refine a_if ?_ | refine a_par ?_ | refine a_as ?_ | refine a_bl ?_ | refine g_at0 ?_ | refine g_at1 ?_ | refine g_at2 ?_ | refine g_at3 ?_ | refine g_strs ?_ | refine g_nstr ?_ | refine g_eqi ?_ | refine g_nei ?_ | refine g_add ?_ | refine g_sub ?_ | refine g_gt ?_ | refine g_ge ?_ | refine g_lt ?_ | refine g_le ?_ | refine g_isn ?_ | refine g_isb ?_ | refine g_isnb ?_ | refine g_lent ?_ | refine g_int ?_) | refine ⟨(lenL (by simp only [List.length_cons, List.length_nil]; omega) : List.length _ ≤ sizeLine), ?_⟩
  refine o_addc ((push_lt (Nat.lt_succ_self _)).trans push_same) push_same (by simp) ?_
  repeat first | (with_reducible refine a_mkE ?_) | (with_reducible refine a_isE0 (by decide +kernel) (by decide +kernel) ?_) | (with_reducible first | refine a_c ?_ | refine a_nil ?_ | refine a_cons ?_) | (with_reducible refine a_slot ?_; refine ⟨_, rfl, ?_⟩) | (with_reducible first | refine a_bin ?_ | refine a_bi ?_ | refine a_tup ?_ | refine a_lst ?_ | refine a_tst ?_ | refine a_not ?_ | refine a_and ?_ | refine a_or ?_ | refine a_ite ?_ | refine a_andV ?_ | refine a_orV ?_ | refine a_call ?_ | refine a_callK ?_ | refine a_met ?_ | refine a_sl ?_ | refine a_no ?_ | refine a_so ?_ | refine a_exi ?_ | refine a_neg ?_ | refine a_rev ?_ | refine a_gnm ?_ | refine a_gt2 ?_ | refine a_u0 ?_ | refine a_u1 ?_ | refine a_let ?_ | refine a_do ?_ | refine a_pars ?_ | refine a_rets ?_ | refine a_ifs ?_ | refine a_skips ?_ | refine a_set ?_ | refine a_exp ?_ | refine a_ret ?_ | refine a_if ?_ | refine a_par ?_ | refine a_as ?_ | refine a_bl ?_ | refine g_at0 ?_ | refine g_at1 ?_ | refine g_at2 ?_ | refine g_at3 ?_ | refine g_strs ?_ | refine g_nstr ?_ | refine g_eqi ?_ | refine g_nei ?_ | refine g_add ?_ | refine g_sub ?_ | refine g_gt ?_ | refine g_ge ?_ | refine g_lt ?_ | refine g_le ?_ | refine g_isn ?_ | refine g_isb ?_ | refine g_isnb ?_ | refine g_lent ?_ | refine g_int ?_) | refine ⟨(lenL (by simp only [List.length_cons, List.length_nil]; omega) : List.length _ ≤ sizeLine), ?_⟩
  refine o_addc ((push_lt (Nat.lt_succ_self _)).trans push_same) push_same (by simp) ?_
  repeat first | (with_reducible refine a_mkE ?_) | (with_reducible refine a_isE0 (by decide +kernel) (by decide +kernel) ?_) | (with_reducible first | refine a_c ?_ | refine a_nil ?_ | refine a_cons ?_) | (with_reducible refine a_slot ?_; refine ⟨_, rfl, ?_⟩) | (with_reducible first | refine a_bin ?_ | refine a_bi ?_ | refine a_tup ?_ | refine a_lst ?_ | refine a_tst ?_ | refine a_not ?_ | refine a_and ?_ | refine a_or ?_ | refine a_ite ?_ | refine a_andV ?_ | refine a_orV ?_ | refine a_call ?_ | refine a_callK ?_ | refine a_met ?_ | refine a_sl ?_ | refine a_no ?_ | refine a_so ?_ | refine a_exi ?_ | refine a_neg ?_ | refine a_rev ?_ | refine a_gnm ?_ | refine a_gt2 ?_ | refine a_u0 ?_ | refine a_u1 ?_ | refine a_let ?_ | refine a_do ?_ | refine a_pars ?_ | refine a_rets ?_ | refine a_ifs ?_ | refine a_skips ?_ | refine a_set ?_ | refine a_exp ?_ | refine a_ret ?_ | refine a_if ?_ | refine a_par ?_ | refine a_as ?_ | refine a_bl ?_ | refine g_at0 ?_ | refine g_at1 ?_ | refine g_at2 ?_ | refine g_at3 ?_ | refine g_strs ?_ | refine g_nstr ?_ | refine g_eqi ?_ | refine g_nei ?_ | refine g_add ?_ | refine g_sub ?_ | refine g_gt ?_ | refine g_ge ?_ | refine g_lt ?_ | refine g_le ?_ | refine g_isn ?_ | refine g_isb ?_ | refine g_isnb ?_ | refine g_lent ?_ | refine g_int ?_) | refine ⟨(lenL (by simp only [List.length_cons, List.length_nil]; omega) : List.length _ ≤ sizeLine), ?_⟩
  refine ⟨_, rfl, ?_, Nat.lt_succ_self _, push_same, ?_⟩
  · refine Gr.n (lo := 0) ?_
    repeat (first | exact Gr.push | refine Gr.trans ?_ Gr.push)
  · repeat (first | exact Gr.push | refine Gr.trans ?_ Gr.push)
theorem o_inF {n : Nat} {S : Sto} {Z : Vl → Sto → Prop} (hn : n < S.n) (h : S.at_ n = .lst ffs) (hz : Z (.bl false) S) : wpo (bIn false (.bl true) (.ref n) S) Z := by
  have da : DatAll 0 S 5 ffs (List.replicate 12 (.bool false)) := by
    unfold ffs
    simp only [List.replicate_succ, List.replicate_zero]
    repeat (first | exact .nil | refine .cons (.bl _) ?_)
  have e : toD S (.ref n) = some (.list (List.replicate 12 (.bool false))) := Dat.toDW (lo := 0) (k := 6) (.lst (Nat.zero_le _) hn h da)
  have e2 : toD S (.bl true) = some (.bool true) := Dat.toDW (lo := 0) (k := 6) (.bl _)
  have g : getD S n = none := by unfold getD; rw [h]
  have s1 : SeqAt.shaped (.bool true) = true := by decide +kernel
  have s2 : SeqAt.shaped (.list (List.replicate 12 (.bool false))) = true := by decide +kernel
  have ea : ((List.replicate 12 (PyData.bool false)).any fun z => PyData.eqv z (.bool true)) = false := by decide +kernel
  have e3 : bIn false (.bl true) (.ref n) S = some (.bl false, S) := by
    unfold bIn
    simp only [g, e, e2, s1, s2, Bool.and_self, if_true, ea]
    rfl
  rw [e3]
  exact hz
end G

set_option linter.all false
set_option maxRecDepth 100000
set_option maxHeartbeats 4000000
namespace G
open PySem PySem.Spec PyProof.Rows L2 Q

def nV : List Vl := [.int 0, .int 1, .int 7, .int 400, .non]
theorem o_neS {v : Vl} (h : v ∈ nV) {S : Sto} {Z : Vl → Sto → Prop} (hz : Z (.bl false) S) : wpo (bNe v v S) Z := by
  have key : ∀ d : PyData, Dat 0 S 6 v d → (¬ ∃ x y, v = .str x ∧ v = .str y) → d.depth ≤ 190 → PyData.eqv d d = true → wpo (bNe v v S) Z := fun d h1 h2 h3 h4 => by
    rw [o_ned (Dat.toDW h1) (Dat.toDW h1) h2 (Dat.lay h1) (Dat.lay h1) (Nat.le_trans (Nat.min_le_left _ _) h3), h4]
    exact hz
  simp only [nV, List.mem_cons, List.not_mem_nil, or_false] at h
  rcases h with rfl | rfl | rfl | rfl | rfl
  · exact key (.int 0) (.int _) (by rintro ⟨x, y, e, _⟩; cases e) (by simp [PyData.depth]) (by decide +kernel)
  · exact key (.int 1) (.int _) (by rintro ⟨x, y, e, _⟩; cases e) (by simp [PyData.depth]) (by decide +kernel)
  · exact key (.int 7) (.int _) (by rintro ⟨x, y, e, _⟩; cases e) (by simp [PyData.depth]) (by decide +kernel)
  · exact key (.int 400) (.int _) (by rintro ⟨x, y, e, _⟩; cases e) (by simp [PyData.depth]) (by decide +kernel)
  · exact key .none .non (by rintro ⟨x, y, e, _⟩; cases e) (by simp [PyData.depth]) (by decide +kernel)
theorem fm_n {v : Vl} (h : v ∈ nV) : fmOk v = true := by
  simp only [nV, List.mem_cons, List.not_mem_nil, or_false] at h
  rcases h with rfl | rfl | rfl | rfl | rfl <;> decide +kernel
def wV : List Vl := [.str "no", .str "why", .str "x y", .str ""]
theorem w_str {v : Vl} (h : v ∈ wV) : ∃ w : Str, v = .str w ∧ w.length ≤ 3 := by
  simp only [wV, List.mem_cons, List.not_mem_nil, or_false] at h
  rcases h with rfl | rfl | rfl | rfl
  · exact ⟨_, rfl, by decide +kernel⟩
  · exact ⟨_, rfl, by decide +kernel⟩
  · exact ⟨_, rfl, by decide +kernel⟩
  · exact ⟨_, rfl, by decide +kernel⟩
theorem law_gen {m : Nat} {ns : List Int} (hm : 20 ≤ m) (hl : ns.length ≤ 63) : wpe ((lev (m + 3)).1 6 [.ref 0] (S0 ns)) noE fun r _ => r = .bl true := by
  rw [lv_law]
  refine w_run rfl ?_
  unfold b_law
  repeat first | (with_reducible refine a_mkE ?_) | (with_reducible refine a_isE0 (by decide +kernel) (by decide +kernel) ?_) | (with_reducible first | refine a_c ?_ | refine a_nil ?_ | refine a_cons ?_) | (with_reducible refine a_slot ?_; refine ⟨_, rfl, ?_⟩) | (with_reducible first | refine a_bin ?_ | refine a_bi ?_ | refine a_tup ?_ | refine a_lst ?_ | refine a_tst ?_ | refine a_not ?_ | refine a_and ?_ | refine a_or ?_ | refine a_ite ?_ | refine a_andV ?_ | refine a_orV ?_ | refine a_call ?_ | refine a_callK ?_ | refine a_met ?_ | refine a_sl ?_ | refine a_no ?_ | refine a_so ?_ | refine a_exi ?_ | refine a_neg ?_ | refine a_rev ?_ | refine a_gnm ?_ | refine a_gt2 ?_ | refine a_u0 ?_ | refine a_u1 ?_ | refine a_let ?_ | refine a_do ?_ | refine a_pars ?_ | refine a_rets ?_ | refine a_ifs ?_ | refine a_skips ?_ | refine a_set ?_ | refine a_exp ?_ | refine a_ret ?_ | refine a_if ?_ | refine a_par ?_ | refine a_as ?_ | refine a_bl ?_ | refine g_at0 ?_ | refine g_at1 ?_ | refine g_at2 ?_ | refine g_at3 ?_ | refine g_strs ?_ | refine g_nstr ?_ | refine g_eqi ?_ | refine g_nei ?_ | refine g_add ?_ | refine g_sub ?_ | refine g_gt ?_ | refine g_ge ?_ | refine g_lt ?_ | refine g_le ?_ | refine g_isn ?_ | refine g_isb ?_ | refine g_isnb ?_ | refine g_lent ?_ | refine g_int ?_) | refine ⟨(lenL (by simp only [List.length_cons, List.length_nil]; omega) : List.length _ ≤ sizeLine), ?_⟩
  refine wpe_mono (begun_w (n := m + 1) hl) ?_ (fun _ _ _ _ z => z.elim)
  rintro _ S1 ⟨rfl, s1, h0⟩
  repeat first | (with_reducible refine a_mkE ?_) | (with_reducible refine a_isE0 (by decide +kernel) (by decide +kernel) ?_) | (with_reducible first | refine a_c ?_ | refine a_nil ?_ | refine a_cons ?_) | (with_reducible refine a_slot ?_; refine ⟨_, rfl, ?_⟩) | (with_reducible first | refine a_bin ?_ | refine a_bi ?_ | refine a_tup ?_ | refine a_lst ?_ | refine a_tst ?_ | refine a_not ?_ | refine a_and ?_ | refine a_or ?_ | refine a_ite ?_ | refine a_andV ?_ | refine a_orV ?_ | refine a_call ?_ | refine a_callK ?_ | refine a_met ?_ | refine a_sl ?_ | refine a_no ?_ | refine a_so ?_ | refine a_exi ?_ | refine a_neg ?_ | refine a_rev ?_ | refine a_gnm ?_ | refine a_gt2 ?_ | refine a_u0 ?_ | refine a_u1 ?_ | refine a_let ?_ | refine a_do ?_ | refine a_pars ?_ | refine a_rets ?_ | refine a_ifs ?_ | refine a_skips ?_ | refine a_set ?_ | refine a_exp ?_ | refine a_ret ?_ | refine a_if ?_ | refine a_par ?_ | refine a_as ?_ | refine a_bl ?_ | refine g_at0 ?_ | refine g_at1 ?_ | refine g_at2 ?_ | refine g_at3 ?_ | refine g_strs ?_ | refine g_nstr ?_ | refine g_eqi ?_ | refine g_nei ?_ | refine g_add ?_ | refine g_sub ?_ | refine g_gt ?_ | refine g_ge ?_ | refine g_lt ?_ | refine g_le ?_ | refine g_isn ?_ | refine g_isb ?_ | refine g_isnb ?_ | refine g_lent ?_ | refine g_int ?_) | refine ⟨(lenL (by simp only [List.length_cons, List.length_nil]; omega) : List.length _ ≤ sizeLine), ?_⟩
  have s1' := s1.gr (Gr.push (o := .lst wV))
  have hpick := pick_w (n := m - 1) (S := S1.push (.lst wV)) s1' (by decide) push_same s1.ln (Nat.lt_succ_self _) (by simp [wV]) (by simp [wV])
  rw [show m - 1 + 3 = m + 2 by omega] at hpick
  refine wpe_mono (show wpe ((lev (m + 2)).1 3 [.ref 2, .ref S1.n] (S1.push (.lst wV))) _ _ from hpick) ?_ (fun _ _ _ _ z => z.elim)
  rintro v S2 ⟨hv, s2, g2⟩
  obtain ⟨w, rfl, hw⟩ := w_str hv
  repeat first | (with_reducible refine a_mkE ?_) | (with_reducible refine a_isE0 (by decide +kernel) (by decide +kernel) ?_) | (with_reducible first | refine a_c ?_ | refine a_nil ?_ | refine a_cons ?_) | (with_reducible refine a_slot ?_; refine ⟨_, rfl, ?_⟩) | (with_reducible first | refine a_bin ?_ | refine a_bi ?_ | refine a_tup ?_ | refine a_lst ?_ | refine a_tst ?_ | refine a_not ?_ | refine a_and ?_ | refine a_or ?_ | refine a_ite ?_ | refine a_andV ?_ | refine a_orV ?_ | refine a_call ?_ | refine a_callK ?_ | refine a_met ?_ | refine a_sl ?_ | refine a_no ?_ | refine a_so ?_ | refine a_exi ?_ | refine a_neg ?_ | refine a_rev ?_ | refine a_gnm ?_ | refine a_gt2 ?_ | refine a_u0 ?_ | refine a_u1 ?_ | refine a_let ?_ | refine a_do ?_ | refine a_pars ?_ | refine a_rets ?_ | refine a_ifs ?_ | refine a_skips ?_ | refine a_set ?_ | refine a_exp ?_ | refine a_ret ?_ | refine a_if ?_ | refine a_par ?_ | refine a_as ?_ | refine a_bl ?_ | refine g_at0 ?_ | refine g_at1 ?_ | refine g_at2 ?_ | refine g_at3 ?_ | refine g_strs ?_ | refine g_nstr ?_ | refine g_eqi ?_ | refine g_nei ?_ | refine g_add ?_ | refine g_sub ?_ | refine g_gt ?_ | refine g_ge ?_ | refine g_lt ?_ | refine g_le ?_ | refine g_isn ?_ | refine g_isb ?_ | refine g_isnb ?_ | refine g_lent ?_ | refine g_int ?_) | refine ⟨(lenL (by simp only [List.length_cons, List.length_nil]; omega) : List.length _ ≤ sizeLine), ?_⟩
  refine s_cut (fun ρ S3 => ∃ a3, ρ = [some (.ref 0), some (.ref 2), some (.str w), a3, none] ∧ Gr 0 S2 S3) ?_ ?_
  · refine s_for ?_
    rw [w_it]
    repeat first | (with_reducible refine a_mkE ?_) | (with_reducible refine a_isE0 (by decide +kernel) (by decide +kernel) ?_) | (with_reducible first | refine a_c ?_ | refine a_nil ?_ | refine a_cons ?_) | (with_reducible refine a_slot ?_; refine ⟨_, rfl, ?_⟩) | (with_reducible first | refine a_bin ?_ | refine a_bi ?_ | refine a_tup ?_ | refine a_lst ?_ | refine a_tst ?_ | refine a_not ?_ | refine a_and ?_ | refine a_or ?_ | refine a_ite ?_ | refine a_andV ?_ | refine a_orV ?_ | refine a_call ?_ | refine a_callK ?_ | refine a_met ?_ | refine a_sl ?_ | refine a_no ?_ | refine a_so ?_ | refine a_exi ?_ | refine a_neg ?_ | refine a_rev ?_ | refine a_gnm ?_ | refine a_gt2 ?_ | refine a_u0 ?_ | refine a_u1 ?_ | refine a_let ?_ | refine a_do ?_ | refine a_pars ?_ | refine a_rets ?_ | refine a_ifs ?_ | refine a_skips ?_ | refine a_set ?_ | refine a_exp ?_ | refine a_ret ?_ | refine a_if ?_ | refine a_par ?_ | refine a_as ?_ | refine a_bl ?_ | refine g_at0 ?_ | refine g_at1 ?_ | refine g_at2 ?_ | refine g_at3 ?_ | refine g_strs ?_ | refine g_nstr ?_ | refine g_eqi ?_ | refine g_nei ?_ | refine g_add ?_ | refine g_sub ?_ | refine g_gt ?_ | refine g_ge ?_ | refine g_lt ?_ | refine g_le ?_ | refine g_isn ?_ | refine g_isb ?_ | refine g_isnb ?_ | refine g_lent ?_ | refine g_int ?_) | refine ⟨(lenL (by simp only [List.length_cons, List.length_nil]; omega) : List.length _ ≤ sizeLine), ?_⟩
    refine wpe_mono (plain_w (n := m + 1)) ?_ (fun _ _ _ _ z => z.elim)
    rintro _ S3 ⟨k, rfl, k1, k2, k3, g3⟩
    refine .inr (.inl ⟨k, _, rfl, getR_l k3, plainC.map excV, fun i ρ S4 => (∃ a3, ρ = [some (.ref 0), some (.ref 2), some (.str w), a3, none]) ∧ Gr 0 S3 S4, ⟨⟨_, rfl⟩, Gr.refl⟩, ?_, ?_, ?_⟩)
    · rintro i ρ S4 _ ⟨_, g4⟩
      exact nxL_at (getR_l ((g4.at_ _ (Nat.zero_le _) k2).trans k3))
    · rintro i x ρ S4 hx ⟨⟨a3, rfl⟩, g4⟩
      obtain ⟨c, hc, rfl⟩ := List.mem_map.mp (List.mem_of_getElem? hx)
      obtain ⟨f1, f2, f3, f4, f5⟩ := plain_facts c hc
      show wps _ _
      repeat first | (with_reducible first | refine a_c ?_ | refine a_nil ?_ | refine a_cons ?_) | (with_reducible refine a_slot ?_; refine ⟨_, rfl, ?_⟩) | (with_reducible first | refine a_bin ?_ | refine a_bi ?_ | refine a_tup ?_ | refine a_lst ?_ | refine a_tst ?_ | refine a_not ?_ | refine a_and ?_ | refine a_or ?_ | refine a_ite ?_ | refine a_andV ?_ | refine a_orV ?_ | refine a_call ?_ | refine a_callK ?_ | refine a_met ?_ | refine a_sl ?_ | refine a_no ?_ | refine a_so ?_ | refine a_exi ?_ | refine a_neg ?_ | refine a_rev ?_ | refine a_gnm ?_ | refine a_gt2 ?_ | refine a_u0 ?_ | refine a_u1 ?_ | refine a_let ?_ | refine a_do ?_ | refine a_pars ?_ | refine a_rets ?_ | refine a_ifs ?_ | refine a_skips ?_ | refine a_set ?_ | refine a_exp ?_ | refine a_ret ?_ | refine a_if ?_ | refine a_par ?_ | refine a_as ?_ | refine a_bl ?_ | refine g_at0 ?_ | refine g_at1 ?_ | refine g_at2 ?_ | refine g_at3 ?_ | refine g_strs ?_ | refine g_nstr ?_ | refine g_eqi ?_ | refine g_nei ?_ | refine g_add ?_ | refine g_sub ?_ | refine g_gt ?_ | refine g_ge ?_ | refine g_lt ?_ | refine g_le ?_ | refine g_isn ?_ | refine g_isb ?_ | refine g_isnb ?_ | refine g_lent ?_ | refine g_int ?_) | refine ⟨(lenL (by simp only [List.length_cons, List.length_nil]; omega) : List.length _ ≤ sizeLine), ?_⟩
      refine a_isV (of_decide_eq_true f1) ?_
      repeat first | (with_reducible first | refine a_c ?_ | refine a_nil ?_ | refine a_cons ?_) | (with_reducible refine a_slot ?_; refine ⟨_, rfl, ?_⟩) | (with_reducible first | refine a_bin ?_ | refine a_bi ?_ | refine a_tup ?_ | refine a_lst ?_ | refine a_tst ?_ | refine a_not ?_ | refine a_and ?_ | refine a_or ?_ | refine a_ite ?_ | refine a_andV ?_ | refine a_orV ?_ | refine a_call ?_ | refine a_callK ?_ | refine a_met ?_ | refine a_sl ?_ | refine a_no ?_ | refine a_so ?_ | refine a_exi ?_ | refine a_neg ?_ | refine a_rev ?_ | refine a_gnm ?_ | refine a_gt2 ?_ | refine a_u0 ?_ | refine a_u1 ?_ | refine a_let ?_ | refine a_do ?_ | refine a_pars ?_ | refine a_rets ?_ | refine a_ifs ?_ | refine a_skips ?_ | refine a_set ?_ | refine a_exp ?_ | refine a_ret ?_ | refine a_if ?_ | refine a_par ?_ | refine a_as ?_ | refine a_bl ?_ | refine g_at0 ?_ | refine g_at1 ?_ | refine g_at2 ?_ | refine g_at3 ?_ | refine g_strs ?_ | refine g_nstr ?_ | refine g_eqi ?_ | refine g_nei ?_ | refine g_add ?_ | refine g_sub ?_ | refine g_gt ?_ | refine g_ge ?_ | refine g_lt ?_ | refine g_le ?_ | refine g_isn ?_ | refine g_isb ?_ | refine g_isnb ?_ | refine g_lent ?_ | refine g_int ?_) | refine ⟨(lenL (by simp only [List.length_cons, List.length_nil]; omega) : List.length _ ≤ sizeLine), ?_⟩
      rw [if_neg (by decide)]
      repeat first | (with_reducible first | refine a_c ?_ | refine a_nil ?_ | refine a_cons ?_) | (with_reducible refine a_slot ?_; refine ⟨_, rfl, ?_⟩) | (with_reducible first | refine a_bin ?_ | refine a_bi ?_ | refine a_tup ?_ | refine a_lst ?_ | refine a_tst ?_ | refine a_not ?_ | refine a_and ?_ | refine a_or ?_ | refine a_ite ?_ | refine a_andV ?_ | refine a_orV ?_ | refine a_call ?_ | refine a_callK ?_ | refine a_met ?_ | refine a_sl ?_ | refine a_no ?_ | refine a_so ?_ | refine a_exi ?_ | refine a_neg ?_ | refine a_rev ?_ | refine a_gnm ?_ | refine a_gt2 ?_ | refine a_u0 ?_ | refine a_u1 ?_ | refine a_let ?_ | refine a_do ?_ | refine a_pars ?_ | refine a_rets ?_ | refine a_ifs ?_ | refine a_skips ?_ | refine a_set ?_ | refine a_exp ?_ | refine a_ret ?_ | refine a_if ?_ | refine a_par ?_ | refine a_as ?_ | refine a_bl ?_ | refine g_at0 ?_ | refine g_at1 ?_ | refine g_at2 ?_ | refine g_at3 ?_ | refine g_strs ?_ | refine g_nstr ?_ | refine g_eqi ?_ | refine g_nei ?_ | refine g_add ?_ | refine g_sub ?_ | refine g_gt ?_ | refine g_ge ?_ | refine g_lt ?_ | refine g_le ?_ | refine g_isn ?_ | refine g_isb ?_ | refine g_isnb ?_ | refine g_lent ?_ | refine g_int ?_) | refine ⟨(lenL (by simp only [List.length_cons, List.length_nil]; omega) : List.length _ ≤ sizeLine), ?_⟩
      refine a_isE f2 f3 ?_
      repeat first | (with_reducible first | refine a_c ?_ | refine a_nil ?_ | refine a_cons ?_) | (with_reducible refine a_slot ?_; refine ⟨_, rfl, ?_⟩) | (with_reducible first | refine a_bin ?_ | refine a_bi ?_ | refine a_tup ?_ | refine a_lst ?_ | refine a_tst ?_ | refine a_not ?_ | refine a_and ?_ | refine a_or ?_ | refine a_ite ?_ | refine a_andV ?_ | refine a_orV ?_ | refine a_call ?_ | refine a_callK ?_ | refine a_met ?_ | refine a_sl ?_ | refine a_no ?_ | refine a_so ?_ | refine a_exi ?_ | refine a_neg ?_ | refine a_rev ?_ | refine a_gnm ?_ | refine a_gt2 ?_ | refine a_u0 ?_ | refine a_u1 ?_ | refine a_let ?_ | refine a_do ?_ | refine a_pars ?_ | refine a_rets ?_ | refine a_ifs ?_ | refine a_skips ?_ | refine a_set ?_ | refine a_exp ?_ | refine a_ret ?_ | refine a_if ?_ | refine a_par ?_ | refine a_as ?_ | refine a_bl ?_ | refine g_at0 ?_ | refine g_at1 ?_ | refine g_at2 ?_ | refine g_at3 ?_ | refine g_strs ?_ | refine g_nstr ?_ | refine g_eqi ?_ | refine g_nei ?_ | refine g_add ?_ | refine g_sub ?_ | refine g_gt ?_ | refine g_ge ?_ | refine g_lt ?_ | refine g_le ?_ | refine g_isn ?_ | refine g_isb ?_ | refine g_isnb ?_ | refine g_lent ?_ | refine g_int ?_) | refine ⟨(lenL (by simp only [List.length_cons, List.length_nil]; omega) : List.length _ ≤ sizeLine), ?_⟩
      rw [if_neg (by decide)]
      repeat first | (with_reducible first | refine a_c ?_ | refine a_nil ?_ | refine a_cons ?_) | (with_reducible refine a_slot ?_; refine ⟨_, rfl, ?_⟩) | (with_reducible first | refine a_bin ?_ | refine a_bi ?_ | refine a_tup ?_ | refine a_lst ?_ | refine a_tst ?_ | refine a_not ?_ | refine a_and ?_ | refine a_or ?_ | refine a_ite ?_ | refine a_andV ?_ | refine a_orV ?_ | refine a_call ?_ | refine a_callK ?_ | refine a_met ?_ | refine a_sl ?_ | refine a_no ?_ | refine a_so ?_ | refine a_exi ?_ | refine a_neg ?_ | refine a_rev ?_ | refine a_gnm ?_ | refine a_gt2 ?_ | refine a_u0 ?_ | refine a_u1 ?_ | refine a_let ?_ | refine a_do ?_ | refine a_pars ?_ | refine a_rets ?_ | refine a_ifs ?_ | refine a_skips ?_ | refine a_set ?_ | refine a_exp ?_ | refine a_ret ?_ | refine a_if ?_ | refine a_par ?_ | refine a_as ?_ | refine a_bl ?_ | refine g_at0 ?_ | refine g_at1 ?_ | refine g_at2 ?_ | refine g_at3 ?_ | refine g_strs ?_ | refine g_nstr ?_ | refine g_eqi ?_ | refine g_nei ?_ | refine g_add ?_ | refine g_sub ?_ | refine g_gt ?_ | refine g_ge ?_ | refine g_lt ?_ | refine g_le ?_ | refine g_isn ?_ | refine g_isb ?_ | refine g_isnb ?_ | refine g_lent ?_ | refine g_int ?_) | refine ⟨(lenL (by simp only [List.length_cons, List.length_nil]; omega) : List.length _ ≤ sizeLine), ?_⟩
      refine a_isE f4 f5 ?_
      repeat first | (with_reducible first | refine a_c ?_ | refine a_nil ?_ | refine a_cons ?_) | (with_reducible refine a_slot ?_; refine ⟨_, rfl, ?_⟩) | (with_reducible first | refine a_bin ?_ | refine a_bi ?_ | refine a_tup ?_ | refine a_lst ?_ | refine a_tst ?_ | refine a_not ?_ | refine a_and ?_ | refine a_or ?_ | refine a_ite ?_ | refine a_andV ?_ | refine a_orV ?_ | refine a_call ?_ | refine a_callK ?_ | refine a_met ?_ | refine a_sl ?_ | refine a_no ?_ | refine a_so ?_ | refine a_exi ?_ | refine a_neg ?_ | refine a_rev ?_ | refine a_gnm ?_ | refine a_gt2 ?_ | refine a_u0 ?_ | refine a_u1 ?_ | refine a_let ?_ | refine a_do ?_ | refine a_pars ?_ | refine a_rets ?_ | refine a_ifs ?_ | refine a_skips ?_ | refine a_set ?_ | refine a_exp ?_ | refine a_ret ?_ | refine a_if ?_ | refine a_par ?_ | refine a_as ?_ | refine a_bl ?_ | refine g_at0 ?_ | refine g_at1 ?_ | refine g_at2 ?_ | refine g_at3 ?_ | refine g_strs ?_ | refine g_nstr ?_ | refine g_eqi ?_ | refine g_nei ?_ | refine g_add ?_ | refine g_sub ?_ | refine g_gt ?_ | refine g_ge ?_ | refine g_lt ?_ | refine g_le ?_ | refine g_isn ?_ | refine g_isb ?_ | refine g_isnb ?_ | refine g_lent ?_ | refine g_int ?_) | refine ⟨(lenL (by simp only [List.length_cons, List.length_nil]; omega) : List.length _ ≤ sizeLine), ?_⟩
      rw [if_neg (by decide)]
      repeat first | (with_reducible first | refine a_c ?_ | refine a_nil ?_ | refine a_cons ?_) | (with_reducible refine a_slot ?_; refine ⟨_, rfl, ?_⟩) | (with_reducible first | refine a_bin ?_ | refine a_bi ?_ | refine a_tup ?_ | refine a_lst ?_ | refine a_tst ?_ | refine a_not ?_ | refine a_and ?_ | refine a_or ?_ | refine a_ite ?_ | refine a_andV ?_ | refine a_orV ?_ | refine a_call ?_ | refine a_callK ?_ | refine a_met ?_ | refine a_sl ?_ | refine a_no ?_ | refine a_so ?_ | refine a_exi ?_ | refine a_neg ?_ | refine a_rev ?_ | refine a_gnm ?_ | refine a_gt2 ?_ | refine a_u0 ?_ | refine a_u1 ?_ | refine a_let ?_ | refine a_do ?_ | refine a_pars ?_ | refine a_rets ?_ | refine a_ifs ?_ | refine a_skips ?_ | refine a_set ?_ | refine a_exp ?_ | refine a_ret ?_ | refine a_if ?_ | refine a_par ?_ | refine a_as ?_ | refine a_bl ?_ | refine g_at0 ?_ | refine g_at1 ?_ | refine g_at2 ?_ | refine g_at3 ?_ | refine g_strs ?_ | refine g_nstr ?_ | refine g_eqi ?_ | refine g_nei ?_ | refine g_add ?_ | refine g_sub ?_ | refine g_gt ?_ | refine g_ge ?_ | refine g_lt ?_ | refine g_le ?_ | refine g_isn ?_ | refine g_isb ?_ | refine g_isnb ?_ | refine g_lent ?_ | refine g_int ?_) | refine ⟨(lenL (by simp only [List.length_cons, List.length_nil]; omega) : List.length _ ≤ sizeLine), ?_⟩
      exact ⟨⟨_, rfl⟩, g4⟩
    · rintro ρ S4 ⟨⟨a3, rfl⟩, g4⟩
      exact ⟨_, rfl, g3.trans g4⟩
  rintro _ S3 ⟨a3, rfl, g3⟩
  repeat first | (with_reducible refine a_mkE ?_) | (with_reducible refine a_isE0 (by decide +kernel) (by decide +kernel) ?_) | (with_reducible first | refine a_c ?_ | refine a_nil ?_ | refine a_cons ?_) | (with_reducible refine a_slot ?_; refine ⟨_, rfl, ?_⟩) | (with_reducible first | refine a_bin ?_ | refine a_bi ?_ | refine a_tup ?_ | refine a_lst ?_ | refine a_tst ?_ | refine a_not ?_ | refine a_and ?_ | refine a_or ?_ | refine a_ite ?_ | refine a_andV ?_ | refine a_orV ?_ | refine a_call ?_ | refine a_callK ?_ | refine a_met ?_ | refine a_sl ?_ | refine a_no ?_ | refine a_so ?_ | refine a_exi ?_ | refine a_neg ?_ | refine a_rev ?_ | refine a_gnm ?_ | refine a_gt2 ?_ | refine a_u0 ?_ | refine a_u1 ?_ | refine a_let ?_ | refine a_do ?_ | refine a_pars ?_ | refine a_rets ?_ | refine a_ifs ?_ | refine a_skips ?_ | refine a_set ?_ | refine a_exp ?_ | refine a_ret ?_ | refine a_if ?_ | refine a_par ?_ | refine a_as ?_ | refine a_bl ?_ | refine g_at0 ?_ | refine g_at1 ?_ | refine g_at2 ?_ | refine g_at3 ?_ | refine g_strs ?_ | refine g_nstr ?_ | refine g_eqi ?_ | refine g_nei ?_ | refine g_add ?_ | refine g_sub ?_ | refine g_gt ?_ | refine g_ge ?_ | refine g_lt ?_ | refine g_le ?_ | refine g_isn ?_ | refine g_isb ?_ | refine g_isnb ?_ | refine g_lent ?_ | refine g_int ?_) | refine ⟨(lenL (by simp only [List.length_cons, List.length_nil]; omega) : List.length _ ≤ sizeLine), ?_⟩
  refine wpe_mono (beneath_w (n := m + 1)) ?_ (fun _ _ _ _ z => z.elim)
  rintro _ S4 ⟨k, rfl, k1, k2, k3, g4⟩
  refine o_inF k2 k3 ?_
  repeat first | (with_reducible refine a_mkE ?_) | (with_reducible refine a_isE0 (by decide +kernel) (by decide +kernel) ?_) | (with_reducible first | refine a_c ?_ | refine a_nil ?_ | refine a_cons ?_) | (with_reducible refine a_slot ?_; refine ⟨_, rfl, ?_⟩) | (with_reducible first | refine a_bin ?_ | refine a_bi ?_ | refine a_tup ?_ | refine a_lst ?_ | refine a_tst ?_ | refine a_not ?_ | refine a_and ?_ | refine a_or ?_ | refine a_ite ?_ | refine a_andV ?_ | refine a_orV ?_ | refine a_call ?_ | refine a_callK ?_ | refine a_met ?_ | refine a_sl ?_ | refine a_no ?_ | refine a_so ?_ | refine a_exi ?_ | refine a_neg ?_ | refine a_rev ?_ | refine a_gnm ?_ | refine a_gt2 ?_ | refine a_u0 ?_ | refine a_u1 ?_ | refine a_let ?_ | refine a_do ?_ | refine a_pars ?_ | refine a_rets ?_ | refine a_ifs ?_ | refine a_skips ?_ | refine a_set ?_ | refine a_exp ?_ | refine a_ret ?_ | refine a_if ?_ | refine a_par ?_ | refine a_as ?_ | refine a_bl ?_ | refine g_at0 ?_ | refine g_at1 ?_ | refine g_at2 ?_ | refine g_at3 ?_ | refine g_strs ?_ | refine g_nstr ?_ | refine g_eqi ?_ | refine g_nei ?_ | refine g_add ?_ | refine g_sub ?_ | refine g_gt ?_ | refine g_ge ?_ | refine g_lt ?_ | refine g_le ?_ | refine g_isn ?_ | refine g_isb ?_ | refine g_isnb ?_ | refine g_lent ?_ | refine g_int ?_) | refine ⟨(lenL (by simp only [List.length_cons, List.length_nil]; omega) : List.length _ ≤ sizeLine), ?_⟩
  rw [if_neg (by decide)]
  repeat first | (with_reducible refine a_mkE ?_) | (with_reducible refine a_isE0 (by decide +kernel) (by decide +kernel) ?_) | (with_reducible first | refine a_c ?_ | refine a_nil ?_ | refine a_cons ?_) | (with_reducible refine a_slot ?_; refine ⟨_, rfl, ?_⟩) | (with_reducible first | refine a_bin ?_ | refine a_bi ?_ | refine a_tup ?_ | refine a_lst ?_ | refine a_tst ?_ | refine a_not ?_ | refine a_and ?_ | refine a_or ?_ | refine a_ite ?_ | refine a_andV ?_ | refine a_orV ?_ | refine a_call ?_ | refine a_callK ?_ | refine a_met ?_ | refine a_sl ?_ | refine a_no ?_ | refine a_so ?_ | refine a_exi ?_ | refine a_neg ?_ | refine a_rev ?_ | refine a_gnm ?_ | refine a_gt2 ?_ | refine a_u0 ?_ | refine a_u1 ?_ | refine a_let ?_ | refine a_do ?_ | refine a_pars ?_ | refine a_rets ?_ | refine a_ifs ?_ | refine a_skips ?_ | refine a_set ?_ | refine a_exp ?_ | refine a_ret ?_ | refine a_if ?_ | refine a_par ?_ | refine a_as ?_ | refine a_bl ?_ | refine g_at0 ?_ | refine g_at1 ?_ | refine g_at2 ?_ | refine g_at3 ?_ | refine g_strs ?_ | refine g_nstr ?_ | refine g_eqi ?_ | refine g_nei ?_ | refine g_add ?_ | refine g_sub ?_ | refine g_gt ?_ | refine g_ge ?_ | refine g_lt ?_ | refine g_le ?_ | refine g_isn ?_ | refine g_isb ?_ | refine g_isnb ?_ | refine g_lent ?_ | refine g_int ?_) | refine ⟨(lenL (by simp only [List.length_cons, List.length_nil]; omega) : List.length _ ≤ sizeLine), ?_⟩
  have s4 := ((s2.gr g3).gr g4).gr (Gr.push (o := .lst nV))
  have hpick2 := pick_w (n := m - 1) (S := S4.push (.lst nV)) s4 (by decide) push_same (((s2.gr g3).gr g4).ln) (Nat.lt_succ_self _) (by simp [nV]) (by simp [nV])
  rw [show m - 1 + 3 = m + 2 by omega] at hpick2
  refine wpe_mono (show wpe ((lev (m + 2)).1 3 [.ref 2, .ref S4.n] (S4.push (.lst nV))) _ _ from hpick2) ?_ (fun _ _ _ _ z => z.elim)
  rintro v S5 ⟨hn, s5, g5⟩
  have hf := fm_n hn
  repeat first | (with_reducible refine a_mkE ?_) | (with_reducible refine a_isE0 (by decide +kernel) (by decide +kernel) ?_) | (with_reducible first | refine a_c ?_ | refine a_nil ?_ | refine a_cons ?_) | (with_reducible refine a_slot ?_; refine ⟨_, rfl, ?_⟩) | (with_reducible first | refine a_bin ?_ | refine a_bi ?_ | refine a_tup ?_ | refine a_lst ?_ | refine a_tst ?_ | refine a_not ?_ | refine a_and ?_ | refine a_or ?_ | refine a_ite ?_ | refine a_andV ?_ | refine a_orV ?_ | refine a_call ?_ | refine a_callK ?_ | refine a_met ?_ | refine a_sl ?_ | refine a_no ?_ | refine a_so ?_ | refine a_exi ?_ | refine a_neg ?_ | refine a_rev ?_ | refine a_gnm ?_ | refine a_gt2 ?_ | refine a_u0 ?_ | refine a_u1 ?_ | refine a_let ?_ | refine a_do ?_ | refine a_pars ?_ | refine a_rets ?_ | refine a_ifs ?_ | refine a_skips ?_ | refine a_set ?_ | refine a_exp ?_ | refine a_ret ?_ | refine a_if ?_ | refine a_par ?_ | refine a_as ?_ | refine a_bl ?_ | refine g_at0 ?_ | refine g_at1 ?_ | refine g_at2 ?_ | refine g_at3 ?_ | refine g_strs ?_ | refine g_nstr ?_ | refine g_eqi ?_ | refine g_nei ?_ | refine g_add ?_ | refine g_sub ?_ | refine g_gt ?_ | refine g_ge ?_ | refine g_lt ?_ | refine g_le ?_ | refine g_isn ?_ | refine g_isb ?_ | refine g_isnb ?_ | refine g_lent ?_ | refine g_int ?_) | refine ⟨(lenL (by simp only [List.length_cons, List.length_nil]; omega) : List.length _ ≤ sizeLine), ?_⟩
  refine w_xf ?_
  refine a_mkF ?_
  repeat first | (with_reducible refine a_mkE ?_) | (with_reducible refine a_isE0 (by decide +kernel) (by decide +kernel) ?_) | (with_reducible first | refine a_c ?_ | refine a_nil ?_ | refine a_cons ?_) | (with_reducible refine a_slot ?_; refine ⟨_, rfl, ?_⟩) | (with_reducible first | refine a_bin ?_ | refine a_bi ?_ | refine a_tup ?_ | refine a_lst ?_ | refine a_tst ?_ | refine a_not ?_ | refine a_and ?_ | refine a_or ?_ | refine a_ite ?_ | refine a_andV ?_ | refine a_orV ?_ | refine a_call ?_ | refine a_callK ?_ | refine a_met ?_ | refine a_sl ?_ | refine a_no ?_ | refine a_so ?_ | refine a_exi ?_ | refine a_neg ?_ | refine a_rev ?_ | refine a_gnm ?_ | refine a_gt2 ?_ | refine a_u0 ?_ | refine a_u1 ?_ | refine a_let ?_ | refine a_do ?_ | refine a_pars ?_ | refine a_rets ?_ | refine a_ifs ?_ | refine a_skips ?_ | refine a_set ?_ | refine a_exp ?_ | refine a_ret ?_ | refine a_if ?_ | refine a_par ?_ | refine a_as ?_ | refine a_bl ?_ | refine g_at0 ?_ | refine g_at1 ?_ | refine g_at2 ?_ | refine g_at3 ?_ | refine g_strs ?_ | refine g_nstr ?_ | refine g_eqi ?_ | refine g_nei ?_ | refine g_add ?_ | refine g_sub ?_ | refine g_gt ?_ | refine g_ge ?_ | refine g_lt ?_ | refine g_le ?_ | refine g_isn ?_ | refine g_isb ?_ | refine g_isnb ?_ | refine g_lent ?_ | refine g_int ?_) | refine ⟨(lenL (by simp only [List.length_cons, List.length_nil]; omega) : List.length _ ≤ sizeLine), ?_⟩
  refine ⟨hf, _, rfl, ?_⟩
  repeat first | (with_reducible refine a_mkE ?_) | (with_reducible refine a_isE0 (by decide +kernel) (by decide +kernel) ?_) | (with_reducible first | refine a_c ?_ | refine a_nil ?_ | refine a_cons ?_) | (with_reducible refine a_slot ?_; refine ⟨_, rfl, ?_⟩) | (with_reducible first | refine a_bin ?_ | refine a_bi ?_ | refine a_tup ?_ | refine a_lst ?_ | refine a_tst ?_ | refine a_not ?_ | refine a_and ?_ | refine a_or ?_ | refine a_ite ?_ | refine a_andV ?_ | refine a_orV ?_ | refine a_call ?_ | refine a_callK ?_ | refine a_met ?_ | refine a_sl ?_ | refine a_no ?_ | refine a_so ?_ | refine a_exi ?_ | refine a_neg ?_ | refine a_rev ?_ | refine a_gnm ?_ | refine a_gt2 ?_ | refine a_u0 ?_ | refine a_u1 ?_ | refine a_let ?_ | refine a_do ?_ | refine a_pars ?_ | refine a_rets ?_ | refine a_ifs ?_ | refine a_skips ?_ | refine a_set ?_ | refine a_exp ?_ | refine a_ret ?_ | refine a_if ?_ | refine a_par ?_ | refine a_as ?_ | refine a_bl ?_ | refine g_at0 ?_ | refine g_at1 ?_ | refine g_at2 ?_ | refine g_at3 ?_ | refine g_strs ?_ | refine g_nstr ?_ | refine g_eqi ?_ | refine g_nei ?_ | refine g_add ?_ | refine g_sub ?_ | refine g_gt ?_ | refine g_ge ?_ | refine g_lt ?_ | refine g_le ?_ | refine g_isn ?_ | refine g_isb ?_ | refine g_isnb ?_ | refine g_lent ?_ | refine g_int ?_) | refine ⟨(lenL (by simp only [List.length_cons, List.length_nil]; omega) : List.length _ ≤ sizeLine), ?_⟩
  refine o_neS hn ?_
  repeat first | (with_reducible refine a_mkE ?_) | (with_reducible refine a_isE0 (by decide +kernel) (by decide +kernel) ?_) | (with_reducible first | refine a_c ?_ | refine a_nil ?_ | refine a_cons ?_) | (with_reducible refine a_slot ?_; refine ⟨_, rfl, ?_⟩) | (with_reducible first | refine a_bin ?_ | refine a_bi ?_ | refine a_tup ?_ | refine a_lst ?_ | refine a_tst ?_ | refine a_not ?_ | refine a_and ?_ | refine a_or ?_ | refine a_ite ?_ | refine a_andV ?_ | refine a_orV ?_ | refine a_call ?_ | refine a_callK ?_ | refine a_met ?_ | refine a_sl ?_ | refine a_no ?_ | refine a_so ?_ | refine a_exi ?_ | refine a_neg ?_ | refine a_rev ?_ | refine a_gnm ?_ | refine a_gt2 ?_ | refine a_u0 ?_ | refine a_u1 ?_ | refine a_let ?_ | refine a_do ?_ | refine a_pars ?_ | refine a_rets ?_ | refine a_ifs ?_ | refine a_skips ?_ | refine a_set ?_ | refine a_exp ?_ | refine a_ret ?_ | refine a_if ?_ | refine a_par ?_ | refine a_as ?_ | refine a_bl ?_ | refine g_at0 ?_ | refine g_at1 ?_ | refine g_at2 ?_ | refine g_at3 ?_ | refine g_strs ?_ | refine g_nstr ?_ | refine g_eqi ?_ | refine g_nei ?_ | refine g_add ?_ | refine g_sub ?_ | refine g_gt ?_ | refine g_ge ?_ | refine g_lt ?_ | refine g_le ?_ | refine g_isn ?_ | refine g_isb ?_ | refine g_isnb ?_ | refine g_lent ?_ | refine g_int ?_) | refine ⟨(lenL (by simp only [List.length_cons, List.length_nil]; omega) : List.length _ ≤ sizeLine), ?_⟩
  rw [if_neg (by decide)]
  repeat first | (with_reducible refine a_mkE ?_) | (with_reducible refine a_isE0 (by decide +kernel) (by decide +kernel) ?_) | (with_reducible first | refine a_c ?_ | refine a_nil ?_ | refine a_cons ?_) | (with_reducible refine a_slot ?_; refine ⟨_, rfl, ?_⟩) | (with_reducible first | refine a_bin ?_ | refine a_bi ?_ | refine a_tup ?_ | refine a_lst ?_ | refine a_tst ?_ | refine a_not ?_ | refine a_and ?_ | refine a_or ?_ | refine a_ite ?_ | refine a_andV ?_ | refine a_orV ?_ | refine a_call ?_ | refine a_callK ?_ | refine a_met ?_ | refine a_sl ?_ | refine a_no ?_ | refine a_so ?_ | refine a_exi ?_ | refine a_neg ?_ | refine a_rev ?_ | refine a_gnm ?_ | refine a_gt2 ?_ | refine a_u0 ?_ | refine a_u1 ?_ | refine a_let ?_ | refine a_do ?_ | refine a_pars ?_ | refine a_rets ?_ | refine a_ifs ?_ | refine a_skips ?_ | refine a_set ?_ | refine a_exp ?_ | refine a_ret ?_ | refine a_if ?_ | refine a_par ?_ | refine a_as ?_ | refine a_bl ?_ | refine g_at0 ?_ | refine g_at1 ?_ | refine g_at2 ?_ | refine g_at3 ?_ | refine g_strs ?_ | refine g_nstr ?_ | refine g_eqi ?_ | refine g_nei ?_ | refine g_add ?_ | refine g_sub ?_ | refine g_gt ?_ | refine g_ge ?_ | refine g_lt ?_ | refine g_le ?_ | refine g_isn ?_ | refine g_isb ?_ | refine g_isnb ?_ | refine g_lent ?_ | refine g_int ?_) | refine ⟨(lenL (by simp only [List.length_cons, List.length_nil]; omega) : List.length _ ≤ sizeLine), ?_⟩
  refine w_xf ?_
  refine a_mkF ?_
  repeat first | (with_reducible refine a_mkE ?_) | (with_reducible refine a_isE0 (by decide +kernel) (by decide +kernel) ?_) | (with_reducible first | refine a_c ?_ | refine a_nil ?_ | refine a_cons ?_) | (with_reducible refine a_slot ?_; refine ⟨_, rfl, ?_⟩) | (with_reducible first | refine a_bin ?_ | refine a_bi ?_ | refine a_tup ?_ | refine a_lst ?_ | refine a_tst ?_ | refine a_not ?_ | refine a_and ?_ | refine a_or ?_ | refine a_ite ?_ | refine a_andV ?_ | refine a_orV ?_ | refine a_call ?_ | refine a_callK ?_ | refine a_met ?_ | refine a_sl ?_ | refine a_no ?_ | refine a_so ?_ | refine a_exi ?_ | refine a_neg ?_ | refine a_rev ?_ | refine a_gnm ?_ | refine a_gt2 ?_ | refine a_u0 ?_ | refine a_u1 ?_ | refine a_let ?_ | refine a_do ?_ | refine a_pars ?_ | refine a_rets ?_ | refine a_ifs ?_ | refine a_skips ?_ | refine a_set ?_ | refine a_exp ?_ | refine a_ret ?_ | refine a_if ?_ | refine a_par ?_ | refine a_as ?_ | refine a_bl ?_ | refine g_at0 ?_ | refine g_at1 ?_ | refine g_at2 ?_ | refine g_at3 ?_ | refine g_strs ?_ | refine g_nstr ?_ | refine g_eqi ?_ | refine g_nei ?_ | refine g_add ?_ | refine g_sub ?_ | refine g_gt ?_ | refine g_ge ?_ | refine g_lt ?_ | refine g_le ?_ | refine g_isn ?_ | refine g_isb ?_ | refine g_isnb ?_ | refine g_lent ?_ | refine g_int ?_) | refine ⟨(lenL (by simp only [List.length_cons, List.length_nil]; omega) : List.length _ ≤ sizeLine), ?_⟩
  refine ⟨hf, _, rfl, ?_⟩
  repeat first | (with_reducible refine a_mkE ?_) | (with_reducible refine a_isE0 (by decide +kernel) (by decide +kernel) ?_) | (with_reducible first | refine a_c ?_ | refine a_nil ?_ | refine a_cons ?_) | (with_reducible refine a_slot ?_; refine ⟨_, rfl, ?_⟩) | (with_reducible first | refine a_bin ?_ | refine a_bi ?_ | refine a_tup ?_ | refine a_lst ?_ | refine a_tst ?_ | refine a_not ?_ | refine a_and ?_ | refine a_or ?_ | refine a_ite ?_ | refine a_andV ?_ | refine a_orV ?_ | refine a_call ?_ | refine a_callK ?_ | refine a_met ?_ | refine a_sl ?_ | refine a_no ?_ | refine a_so ?_ | refine a_exi ?_ | refine a_neg ?_ | refine a_rev ?_ | refine a_gnm ?_ | refine a_gt2 ?_ | refine a_u0 ?_ | refine a_u1 ?_ | refine a_let ?_ | refine a_do ?_ | refine a_pars ?_ | refine a_rets ?_ | refine a_ifs ?_ | refine a_skips ?_ | refine a_set ?_ | refine a_exp ?_ | refine a_ret ?_ | refine a_if ?_ | refine a_par ?_ | refine a_as ?_ | refine a_bl ?_ | refine g_at0 ?_ | refine g_at1 ?_ | refine g_at2 ?_ | refine g_at3 ?_ | refine g_strs ?_ | refine g_nstr ?_ | refine g_eqi ?_ | refine g_nei ?_ | refine g_add ?_ | refine g_sub ?_ | refine g_gt ?_ | refine g_ge ?_ | refine g_lt ?_ | refine g_le ?_ | refine g_isn ?_ | refine g_isb ?_ | refine g_isnb ?_ | refine g_lent ?_ | refine g_int ?_) | refine ⟨(lenL (by simp only [List.length_cons, List.length_nil]; omega) : List.length _ ≤ sizeLine), ?_⟩
  refine o_neS hn ?_
  repeat first | (with_reducible refine a_mkE ?_) | (with_reducible refine a_isE0 (by decide +kernel) (by decide +kernel) ?_) | (with_reducible first | refine a_c ?_ | refine a_nil ?_ | refine a_cons ?_) | (with_reducible refine a_slot ?_; refine ⟨_, rfl, ?_⟩) | (with_reducible first | refine a_bin ?_ | refine a_bi ?_ | refine a_tup ?_ | refine a_lst ?_ | refine a_tst ?_ | refine a_not ?_ | refine a_and ?_ | refine a_or ?_ | refine a_ite ?_ | refine a_andV ?_ | refine a_orV ?_ | refine a_call ?_ | refine a_callK ?_ | refine a_met ?_ | refine a_sl ?_ | refine a_no ?_ | refine a_so ?_ | refine a_exi ?_ | refine a_neg ?_ | refine a_rev ?_ | refine a_gnm ?_ | refine a_gt2 ?_ | refine a_u0 ?_ | refine a_u1 ?_ | refine a_let ?_ | refine a_do ?_ | refine a_pars ?_ | refine a_rets ?_ | refine a_ifs ?_ | refine a_skips ?_ | refine a_set ?_ | refine a_exp ?_ | refine a_ret ?_ | refine a_if ?_ | refine a_par ?_ | refine a_as ?_ | refine a_bl ?_ | refine g_at0 ?_ | refine g_at1 ?_ | refine g_at2 ?_ | refine g_at3 ?_ | refine g_strs ?_ | refine g_nstr ?_ | refine g_eqi ?_ | refine g_nei ?_ | refine g_add ?_ | refine g_sub ?_ | refine g_gt ?_ | refine g_ge ?_ | refine g_lt ?_ | refine g_le ?_ | refine g_isn ?_ | refine g_isb ?_ | refine g_isnb ?_ | refine g_lent ?_ | refine g_int ?_) | refine ⟨(lenL (by simp only [List.length_cons, List.length_nil]; omega) : List.length _ ≤ sizeLine), ?_⟩
  rw [if_neg (by decide)]
  repeat first | (with_reducible refine a_mkE ?_) | (with_reducible refine a_isE0 (by decide +kernel) (by decide +kernel) ?_) | (with_reducible first | refine a_c ?_ | refine a_nil ?_ | refine a_cons ?_) | (with_reducible refine a_slot ?_; refine ⟨_, rfl, ?_⟩) | (with_reducible first | refine a_bin ?_ | refine a_bi ?_ | refine a_tup ?_ | refine a_lst ?_ | refine a_tst ?_ | refine a_not ?_ | refine a_and ?_ | refine a_or ?_ | refine a_ite ?_ | refine a_andV ?_ | refine a_orV ?_ | refine a_call ?_ | refine a_callK ?_ | refine a_met ?_ | refine a_sl ?_ | refine a_no ?_ | refine a_so ?_ | refine a_exi ?_ | refine a_neg ?_ | refine a_rev ?_ | refine a_gnm ?_ | refine a_gt2 ?_ | refine a_u0 ?_ | refine a_u1 ?_ | refine a_let ?_ | refine a_do ?_ | refine a_pars ?_ | refine a_rets ?_ | refine a_ifs ?_ | refine a_skips ?_ | refine a_set ?_ | refine a_exp ?_ | refine a_ret ?_ | refine a_if ?_ | refine a_par ?_ | refine a_as ?_ | refine a_bl ?_ | refine g_at0 ?_ | refine g_at1 ?_ | refine g_at2 ?_ | refine g_at3 ?_ | refine g_strs ?_ | refine g_nstr ?_ | refine g_eqi ?_ | refine g_nei ?_ | refine g_add ?_ | refine g_sub ?_ | refine g_gt ?_ | refine g_ge ?_ | refine g_lt ?_ | refine g_le ?_ | refine g_isn ?_ | refine g_isb ?_ | refine g_isnb ?_ | refine g_lent ?_ | refine g_int ?_) | refine ⟨(lenL (by simp only [List.length_cons, List.length_nil]; omega) : List.length _ ≤ sizeLine), ?_⟩
  refine a_mkF ?_
  repeat first | (with_reducible refine a_mkE ?_) | (with_reducible refine a_isE0 (by decide +kernel) (by decide +kernel) ?_) | (with_reducible first | refine a_c ?_ | refine a_nil ?_ | refine a_cons ?_) | (with_reducible refine a_slot ?_; refine ⟨_, rfl, ?_⟩) | (with_reducible first | refine a_bin ?_ | refine a_bi ?_ | refine a_tup ?_ | refine a_lst ?_ | refine a_tst ?_ | refine a_not ?_ | refine a_and ?_ | refine a_or ?_ | refine a_ite ?_ | refine a_andV ?_ | refine a_orV ?_ | refine a_call ?_ | refine a_callK ?_ | refine a_met ?_ | refine a_sl ?_ | refine a_no ?_ | refine a_so ?_ | refine a_exi ?_ | refine a_neg ?_ | refine a_rev ?_ | refine a_gnm ?_ | refine a_gt2 ?_ | refine a_u0 ?_ | refine a_u1 ?_ | refine a_let ?_ | refine a_do ?_ | refine a_pars ?_ | refine a_rets ?_ | refine a_ifs ?_ | refine a_skips ?_ | refine a_set ?_ | refine a_exp ?_ | refine a_ret ?_ | refine a_if ?_ | refine a_par ?_ | refine a_as ?_ | refine a_bl ?_ | refine g_at0 ?_ | refine g_at1 ?_ | refine g_at2 ?_ | refine g_at3 ?_ | refine g_strs ?_ | refine g_nstr ?_ | refine g_eqi ?_ | refine g_nei ?_ | refine g_add ?_ | refine g_sub ?_ | refine g_gt ?_ | refine g_ge ?_ | refine g_lt ?_ | refine g_le ?_ | refine g_isn ?_ | refine g_isb ?_ | refine g_isnb ?_ | refine g_lent ?_ | refine g_int ?_) | refine ⟨(lenL (by simp only [List.length_cons, List.length_nil]; omega) : List.length _ ≤ sizeLine), ?_⟩
  refine ⟨hf, ?_⟩
  repeat first | (with_reducible refine a_mkE ?_) | (with_reducible refine a_isE0 (by decide +kernel) (by decide +kernel) ?_) | (with_reducible first | refine a_c ?_ | refine a_nil ?_ | refine a_cons ?_) | (with_reducible refine a_slot ?_; refine ⟨_, rfl, ?_⟩) | (with_reducible first | refine a_bin ?_ | refine a_bi ?_ | refine a_tup ?_ | refine a_lst ?_ | refine a_tst ?_ | refine a_not ?_ | refine a_and ?_ | refine a_or ?_ | refine a_ite ?_ | refine a_andV ?_ | refine a_orV ?_ | refine a_call ?_ | refine a_callK ?_ | refine a_met ?_ | refine a_sl ?_ | refine a_no ?_ | refine a_so ?_ | refine a_exi ?_ | refine a_neg ?_ | refine a_rev ?_ | refine a_gnm ?_ | refine a_gt2 ?_ | refine a_u0 ?_ | refine a_u1 ?_ | refine a_let ?_ | refine a_do ?_ | refine a_pars ?_ | refine a_rets ?_ | refine a_ifs ?_ | refine a_skips ?_ | refine a_set ?_ | refine a_exp ?_ | refine a_ret ?_ | refine a_if ?_ | refine a_par ?_ | refine a_as ?_ | refine a_bl ?_ | refine g_at0 ?_ | refine g_at1 ?_ | refine g_at2 ?_ | refine g_at3 ?_ | refine g_strs ?_ | refine g_nstr ?_ | refine g_eqi ?_ | refine g_nei ?_ | refine g_add ?_ | refine g_sub ?_ | refine g_gt ?_ | refine g_ge ?_ | refine g_lt ?_ | refine g_le ?_ | refine g_isn ?_ | refine g_isb ?_ | refine g_isnb ?_ | refine g_lent ?_ | refine g_int ?_) | refine ⟨(lenL (by simp only [List.length_cons, List.length_nil]; omega) : List.length _ ≤ sizeLine), ?_⟩
  rw [if_neg (by decide)]
  repeat first | (with_reducible refine a_mkE ?_) | (with_reducible refine a_isE0 (by decide +kernel) (by decide +kernel) ?_) | (with_reducible first | refine a_c ?_ | refine a_nil ?_ | refine a_cons ?_) | (with_reducible refine a_slot ?_; refine ⟨_, rfl, ?_⟩) | (with_reducible first | refine a_bin ?_ | refine a_bi ?_ | refine a_tup ?_ | refine a_lst ?_ | refine a_tst ?_ | refine a_not ?_ | refine a_and ?_ | refine a_or ?_ | refine a_ite ?_ | refine a_andV ?_ | refine a_orV ?_ | refine a_call ?_ | refine a_callK ?_ | refine a_met ?_ | refine a_sl ?_ | refine a_no ?_ | refine a_so ?_ | refine a_exi ?_ | refine a_neg ?_ | refine a_rev ?_ | refine a_gnm ?_ | refine a_gt2 ?_ | refine a_u0 ?_ | refine a_u1 ?_ | refine a_let ?_ | refine a_do ?_ | refine a_pars ?_ | refine a_rets ?_ | refine a_ifs ?_ | refine a_skips ?_ | refine a_set ?_ | refine a_exp ?_ | refine a_ret ?_ | refine a_if ?_ | refine a_par ?_ | refine a_as ?_ | refine a_bl ?_ | refine g_at0 ?_ | refine g_at1 ?_ | refine g_at2 ?_ | refine g_at3 ?_ | refine g_strs ?_ | refine g_nstr ?_ | refine g_eqi ?_ | refine g_nei ?_ | refine g_add ?_ | refine g_sub ?_ | refine g_gt ?_ | refine g_ge ?_ | refine g_lt ?_ | refine g_le ?_ | refine g_isn ?_ | refine g_isb ?_ | refine g_isnb ?_ | refine g_lent ?_ | refine g_int ?_) | refine ⟨(lenL (by simp only [List.length_cons, List.length_nil]; omega) : List.length _ ≤ sizeLine), ?_⟩
  have hws : fmOk (.str w) = true := decide_eq_true (by rw [show sizeLine = 16777216 from rfl]; omega)
  refine s_cut (fun ρ S6 => ∃ a3, ρ = [some (.ref 0), some (.ref 2), some (.str w), a3, some v]) ?_ ?_
  · refine s_forU ?_
    repeat first | (with_reducible first | refine a_c ?_ | refine a_nil ?_ | refine a_cons ?_) | (with_reducible refine a_slot ?_; refine ⟨_, rfl, ?_⟩) | (with_reducible first | refine a_bin ?_ | refine a_bi ?_ | refine a_tup ?_ | refine a_lst ?_ | refine a_tst ?_ | refine a_not ?_ | refine a_and ?_ | refine a_or ?_ | refine a_ite ?_ | refine a_andV ?_ | refine a_orV ?_ | refine a_call ?_ | refine a_callK ?_ | refine a_met ?_ | refine a_sl ?_ | refine a_no ?_ | refine a_so ?_ | refine a_exi ?_ | refine a_neg ?_ | refine a_rev ?_ | refine a_gnm ?_ | refine a_gt2 ?_ | refine a_u0 ?_ | refine a_u1 ?_ | refine a_let ?_ | refine a_do ?_ | refine a_pars ?_ | refine a_rets ?_ | refine a_ifs ?_ | refine a_skips ?_ | refine a_set ?_ | refine a_exp ?_ | refine a_ret ?_ | refine a_if ?_ | refine a_par ?_ | refine a_as ?_ | refine a_bl ?_ | refine g_at0 ?_ | refine g_at1 ?_ | refine g_at2 ?_ | refine g_at3 ?_ | refine g_strs ?_ | refine g_nstr ?_ | refine g_eqi ?_ | refine g_nei ?_ | refine g_add ?_ | refine g_sub ?_ | refine g_gt ?_ | refine g_ge ?_ | refine g_lt ?_ | refine g_le ?_ | refine g_isn ?_ | refine g_isb ?_ | refine g_isnb ?_ | refine g_lent ?_ | refine g_int ?_) | refine ⟨(lenL (by simp only [List.length_cons, List.length_nil]; omega) : List.length _ ≤ sizeLine), ?_⟩
    refine a_mkF ?_
    repeat first | (with_reducible first | refine a_c ?_ | refine a_nil ?_ | refine a_cons ?_) | (with_reducible refine a_slot ?_; refine ⟨_, rfl, ?_⟩) | (with_reducible first | refine a_bin ?_ | refine a_bi ?_ | refine a_tup ?_ | refine a_lst ?_ | refine a_tst ?_ | refine a_not ?_ | refine a_and ?_ | refine a_or ?_ | refine a_ite ?_ | refine a_andV ?_ | refine a_orV ?_ | refine a_call ?_ | refine a_callK ?_ | refine a_met ?_ | refine a_sl ?_ | refine a_no ?_ | refine a_so ?_ | refine a_exi ?_ | refine a_neg ?_ | refine a_rev ?_ | refine a_gnm ?_ | refine a_gt2 ?_ | refine a_u0 ?_ | refine a_u1 ?_ | refine a_let ?_ | refine a_do ?_ | refine a_pars ?_ | refine a_rets ?_ | refine a_ifs ?_ | refine a_skips ?_ | refine a_set ?_ | refine a_exp ?_ | refine a_ret ?_ | refine a_if ?_ | refine a_par ?_ | refine a_as ?_ | refine a_bl ?_ | refine g_at0 ?_ | refine g_at1 ?_ | refine g_at2 ?_ | refine g_at3 ?_ | refine g_strs ?_ | refine g_nstr ?_ | refine g_eqi ?_ | refine g_nei ?_ | refine g_add ?_ | refine g_sub ?_ | refine g_gt ?_ | refine g_ge ?_ | refine g_lt ?_ | refine g_le ?_ | refine g_isn ?_ | refine g_isb ?_ | refine g_isnb ?_ | refine g_lent ?_ | refine g_int ?_) | refine ⟨(lenL (by simp only [List.length_cons, List.length_nil]; omega) : List.length _ ≤ sizeLine), ?_⟩
    refine ⟨hws, ?_⟩
    repeat first | (with_reducible first | refine a_c ?_ | refine a_nil ?_ | refine a_cons ?_) | (with_reducible refine a_slot ?_; refine ⟨_, rfl, ?_⟩) | (with_reducible first | refine a_bin ?_ | refine a_bi ?_ | refine a_tup ?_ | refine a_lst ?_ | refine a_tst ?_ | refine a_not ?_ | refine a_and ?_ | refine a_or ?_ | refine a_ite ?_ | refine a_andV ?_ | refine a_orV ?_ | refine a_call ?_ | refine a_callK ?_ | refine a_met ?_ | refine a_sl ?_ | refine a_no ?_ | refine a_so ?_ | refine a_exi ?_ | refine a_neg ?_ | refine a_rev ?_ | refine a_gnm ?_ | refine a_gt2 ?_ | refine a_u0 ?_ | refine a_u1 ?_ | refine a_let ?_ | refine a_do ?_ | refine a_pars ?_ | refine a_rets ?_ | refine a_ifs ?_ | refine a_skips ?_ | refine a_set ?_ | refine a_exp ?_ | refine a_ret ?_ | refine a_if ?_ | refine a_par ?_ | refine a_as ?_ | refine a_bl ?_ | refine g_at0 ?_ | refine g_at1 ?_ | refine g_at2 ?_ | refine g_at3 ?_ | refine g_strs ?_ | refine g_nstr ?_ | refine g_eqi ?_ | refine g_nei ?_ | refine g_add ?_ | refine g_sub ?_ | refine g_gt ?_ | refine g_ge ?_ | refine g_lt ?_ | refine g_le ?_ | refine g_isn ?_ | refine g_isb ?_ | refine g_isnb ?_ | refine g_lent ?_ | refine g_int ?_) | refine ⟨(lenL (by simp only [List.length_cons, List.length_nil]; omega) : List.length _ ≤ sizeLine), ?_⟩
    refine a_mkF ?_
    repeat first | (with_reducible first | refine a_c ?_ | refine a_nil ?_ | refine a_cons ?_) | (with_reducible refine a_slot ?_; refine ⟨_, rfl, ?_⟩) | (with_reducible first | refine a_bin ?_ | refine a_bi ?_ | refine a_tup ?_ | refine a_lst ?_ | refine a_tst ?_ | refine a_not ?_ | refine a_and ?_ | refine a_or ?_ | refine a_ite ?_ | refine a_andV ?_ | refine a_orV ?_ | refine a_call ?_ | refine a_callK ?_ | refine a_met ?_ | refine a_sl ?_ | refine a_no ?_ | refine a_so ?_ | refine a_exi ?_ | refine a_neg ?_ | refine a_rev ?_ | refine a_gnm ?_ | refine a_gt2 ?_ | refine a_u0 ?_ | refine a_u1 ?_ | refine a_let ?_ | refine a_do ?_ | refine a_pars ?_ | refine a_rets ?_ | refine a_ifs ?_ | refine a_skips ?_ | refine a_set ?_ | refine a_exp ?_ | refine a_ret ?_ | refine a_if ?_ | refine a_par ?_ | refine a_as ?_ | refine a_bl ?_ | refine g_at0 ?_ | refine g_at1 ?_ | refine g_at2 ?_ | refine g_at3 ?_ | refine g_strs ?_ | refine g_nstr ?_ | refine g_eqi ?_ | refine g_nei ?_ | refine g_add ?_ | refine g_sub ?_ | refine g_gt ?_ | refine g_ge ?_ | refine g_lt ?_ | refine g_le ?_ | refine g_isn ?_ | refine g_isb ?_ | refine g_isnb ?_ | refine g_lent ?_ | refine g_int ?_) | refine ⟨(lenL (by simp only [List.length_cons, List.length_nil]; omega) : List.length _ ≤ sizeLine), ?_⟩
    refine ⟨hws, ?_⟩
    repeat first | (with_reducible first | refine a_c ?_ | refine a_nil ?_ | refine a_cons ?_) | (with_reducible refine a_slot ?_; refine ⟨_, rfl, ?_⟩) | (with_reducible first | refine a_bin ?_ | refine a_bi ?_ | refine a_tup ?_ | refine a_lst ?_ | refine a_tst ?_ | refine a_not ?_ | refine a_and ?_ | refine a_or ?_ | refine a_ite ?_ | refine a_andV ?_ | refine a_orV ?_ | refine a_call ?_ | refine a_callK ?_ | refine a_met ?_ | refine a_sl ?_ | refine a_no ?_ | refine a_so ?_ | refine a_exi ?_ | refine a_neg ?_ | refine a_rev ?_ | refine a_gnm ?_ | refine a_gt2 ?_ | refine a_u0 ?_ | refine a_u1 ?_ | refine a_let ?_ | refine a_do ?_ | refine a_pars ?_ | refine a_rets ?_ | refine a_ifs ?_ | refine a_skips ?_ | refine a_set ?_ | refine a_exp ?_ | refine a_ret ?_ | refine a_if ?_ | refine a_par ?_ | refine a_as ?_ | refine a_bl ?_ | refine g_at0 ?_ | refine g_at1 ?_ | refine g_at2 ?_ | refine g_at3 ?_ | refine g_strs ?_ | refine g_nstr ?_ | refine g_eqi ?_ | refine g_nei ?_ | refine g_add ?_ | refine g_sub ?_ | refine g_gt ?_ | refine g_ge ?_ | refine g_lt ?_ | refine g_le ?_ | refine g_isn ?_ | refine g_isb ?_ | refine g_isnb ?_ | refine g_lent ?_ | refine g_int ?_) | refine ⟨(lenL (by simp only [List.length_cons, List.length_nil]; omega) : List.length _ ≤ sizeLine), ?_⟩
    refine ⟨_, _, rfl, push_same, ?_⟩
    repeat first | (with_reducible first | refine a_c ?_ | refine a_nil ?_ | refine a_cons ?_) | (with_reducible refine a_slot ?_; refine ⟨_, rfl, ?_⟩) | (with_reducible first | refine a_bin ?_ | refine a_bi ?_ | refine a_tup ?_ | refine a_lst ?_ | refine a_tst ?_ | refine a_not ?_ | refine a_and ?_ | refine a_or ?_ | refine a_ite ?_ | refine a_andV ?_ | refine a_orV ?_ | refine a_call ?_ | refine a_callK ?_ | refine a_met ?_ | refine a_sl ?_ | refine a_no ?_ | refine a_so ?_ | refine a_exi ?_ | refine a_neg ?_ | refine a_rev ?_ | refine a_gnm ?_ | refine a_gt2 ?_ | refine a_u0 ?_ | refine a_u1 ?_ | refine a_let ?_ | refine a_do ?_ | refine a_pars ?_ | refine a_rets ?_ | refine a_ifs ?_ | refine a_skips ?_ | refine a_set ?_ | refine a_exp ?_ | refine a_ret ?_ | refine a_if ?_ | refine a_par ?_ | refine a_as ?_ | refine a_bl ?_ | refine g_at0 ?_ | refine g_at1 ?_ | refine g_at2 ?_ | refine g_at3 ?_ | refine g_strs ?_ | refine g_nstr ?_ | refine g_eqi ?_ | refine g_nei ?_ | refine g_add ?_ | refine g_sub ?_ | refine g_gt ?_ | refine g_ge ?_ | refine g_lt ?_ | refine g_le ?_ | refine g_isn ?_ | refine g_isb ?_ | refine g_isnb ?_ | refine g_lent ?_ | refine g_int ?_) | refine ⟨(lenL (by simp only [List.length_cons, List.length_nil]; omega) : List.length _ ≤ sizeLine), ?_⟩
    refine w_xf ?_
    repeat first | (with_reducible first | refine a_c ?_ | refine a_nil ?_ | refine a_cons ?_) | (with_reducible refine a_slot ?_; refine ⟨_, rfl, ?_⟩) | (with_reducible first | refine a_bin ?_ | refine a_bi ?_ | refine a_tup ?_ | refine a_lst ?_ | refine a_tst ?_ | refine a_not ?_ | refine a_and ?_ | refine a_or ?_ | refine a_ite ?_ | refine a_andV ?_ | refine a_orV ?_ | refine a_call ?_ | refine a_callK ?_ | refine a_met ?_ | refine a_sl ?_ | refine a_no ?_ | refine a_so ?_ | refine a_exi ?_ | refine a_neg ?_ | refine a_rev ?_ | refine a_gnm ?_ | refine a_gt2 ?_ | refine a_u0 ?_ | refine a_u1 ?_ | refine a_let ?_ | refine a_do ?_ | refine a_pars ?_ | refine a_rets ?_ | refine a_ifs ?_ | refine a_skips ?_ | refine a_set ?_ | refine a_exp ?_ | refine a_ret ?_ | refine a_if ?_ | refine a_par ?_ | refine a_as ?_ | refine a_bl ?_ | refine g_at0 ?_ | refine g_at1 ?_ | refine g_at2 ?_ | refine g_at3 ?_ | refine g_strs ?_ | refine g_nstr ?_ | refine g_eqi ?_ | refine g_nei ?_ | refine g_add ?_ | refine g_sub ?_ | refine g_gt ?_ | refine g_ge ?_ | refine g_lt ?_ | refine g_le ?_ | refine g_isn ?_ | refine g_isb ?_ | refine g_isnb ?_ | refine g_lent ?_ | refine g_int ?_) | refine ⟨(lenL (by simp only [List.length_cons, List.length_nil]; omega) : List.length _ ≤ sizeLine), ?_⟩
    refine ⟨_, rfl, ?_⟩
    repeat first | (with_reducible first | refine a_c ?_ | refine a_nil ?_ | refine a_cons ?_) | (with_reducible refine a_slot ?_; refine ⟨_, rfl, ?_⟩) | (with_reducible first | refine a_bin ?_ | refine a_bi ?_ | refine a_tup ?_ | refine a_lst ?_ | refine a_tst ?_ | refine a_not ?_ | refine a_and ?_ | refine a_or ?_ | refine a_ite ?_ | refine a_andV ?_ | refine a_orV ?_ | refine a_call ?_ | refine a_callK ?_ | refine a_met ?_ | refine a_sl ?_ | refine a_no ?_ | refine a_so ?_ | refine a_exi ?_ | refine a_neg ?_ | refine a_rev ?_ | refine a_gnm ?_ | refine a_gt2 ?_ | refine a_u0 ?_ | refine a_u1 ?_ | refine a_let ?_ | refine a_do ?_ | refine a_pars ?_ | refine a_rets ?_ | refine a_ifs ?_ | refine a_skips ?_ | refine a_set ?_ | refine a_exp ?_ | refine a_ret ?_ | refine a_if ?_ | refine a_par ?_ | refine a_as ?_ | refine a_bl ?_ | refine g_at0 ?_ | refine g_at1 ?_ | refine g_at2 ?_ | refine g_at3 ?_ | refine g_strs ?_ | refine g_nstr ?_ | refine g_eqi ?_ | refine g_nei ?_ | refine g_add ?_ | refine g_sub ?_ | refine g_gt ?_ | refine g_ge ?_ | refine g_lt ?_ | refine g_le ?_ | refine g_isn ?_ | refine g_isb ?_ | refine g_isnb ?_ | refine g_lent ?_ | refine g_int ?_) | refine ⟨(lenL (by simp only [List.length_cons, List.length_nil]; omega) : List.length _ ≤ sizeLine), ?_⟩
    rw [decide_eq_true rfl]
    rw [if_neg (by decide)]
    repeat first | (with_reducible first | refine a_c ?_ | refine a_nil ?_ | refine a_cons ?_) | (with_reducible refine a_slot ?_; refine ⟨_, rfl, ?_⟩) | (with_reducible first | refine a_bin ?_ | refine a_bi ?_ | refine a_tup ?_ | refine a_lst ?_ | refine a_tst ?_ | refine a_not ?_ | refine a_and ?_ | refine a_or ?_ | refine a_ite ?_ | refine a_andV ?_ | refine a_orV ?_ | refine a_call ?_ | refine a_callK ?_ | refine a_met ?_ | refine a_sl ?_ | refine a_no ?_ | refine a_so ?_ | refine a_exi ?_ | refine a_neg ?_ | refine a_rev ?_ | refine a_gnm ?_ | refine a_gt2 ?_ | refine a_u0 ?_ | refine a_u1 ?_ | refine a_let ?_ | refine a_do ?_ | refine a_pars ?_ | refine a_rets ?_ | refine a_ifs ?_ | refine a_skips ?_ | refine a_set ?_ | refine a_exp ?_ | refine a_ret ?_ | refine a_if ?_ | refine a_par ?_ | refine a_as ?_ | refine a_bl ?_ | refine g_at0 ?_ | refine g_at1 ?_ | refine g_at2 ?_ | refine g_at3 ?_ | refine g_strs ?_ | refine g_nstr ?_ | refine g_eqi ?_ | refine g_nei ?_ | refine g_add ?_ | refine g_sub ?_ | refine g_gt ?_ | refine g_ge ?_ | refine g_lt ?_ | refine g_le ?_ | refine g_isn ?_ | refine g_isb ?_ | refine g_isnb ?_ | refine g_lent ?_ | refine g_int ?_) | refine ⟨(lenL (by simp only [List.length_cons, List.length_nil]; omega) : List.length _ ≤ sizeLine), ?_⟩
    refine a_isE (b := true) (by decide +kernel) (by decide +kernel) ?_
    repeat first | (with_reducible first | refine a_c ?_ | refine a_nil ?_ | refine a_cons ?_) | (with_reducible refine a_slot ?_; refine ⟨_, rfl, ?_⟩) | (with_reducible first | refine a_bin ?_ | refine a_bi ?_ | refine a_tup ?_ | refine a_lst ?_ | refine a_tst ?_ | refine a_not ?_ | refine a_and ?_ | refine a_or ?_ | refine a_ite ?_ | refine a_andV ?_ | refine a_orV ?_ | refine a_call ?_ | refine a_callK ?_ | refine a_met ?_ | refine a_sl ?_ | refine a_no ?_ | refine a_so ?_ | refine a_exi ?_ | refine a_neg ?_ | refine a_rev ?_ | refine a_gnm ?_ | refine a_gt2 ?_ | refine a_u0 ?_ | refine a_u1 ?_ | refine a_let ?_ | refine a_do ?_ | refine a_pars ?_ | refine a_rets ?_ | refine a_ifs ?_ | refine a_skips ?_ | refine a_set ?_ | refine a_exp ?_ | refine a_ret ?_ | refine a_if ?_ | refine a_par ?_ | refine a_as ?_ | refine a_bl ?_ | refine g_at0 ?_ | refine g_at1 ?_ | refine g_at2 ?_ | refine g_at3 ?_ | refine g_strs ?_ | refine g_nstr ?_ | refine g_eqi ?_ | refine g_nei ?_ | refine g_add ?_ | refine g_sub ?_ | refine g_gt ?_ | refine g_ge ?_ | refine g_lt ?_ | refine g_le ?_ | refine g_isn ?_ | refine g_isb ?_ | refine g_isnb ?_ | refine g_lent ?_ | refine g_int ?_) | refine ⟨(lenL (by simp only [List.length_cons, List.length_nil]; omega) : List.length _ ≤ sizeLine), ?_⟩
    rw [if_neg (by decide)]
    repeat first | (with_reducible first | refine a_c ?_ | refine a_nil ?_ | refine a_cons ?_) | (with_reducible refine a_slot ?_; refine ⟨_, rfl, ?_⟩) | (with_reducible first | refine a_bin ?_ | refine a_bi ?_ | refine a_tup ?_ | refine a_lst ?_ | refine a_tst ?_ | refine a_not ?_ | refine a_and ?_ | refine a_or ?_ | refine a_ite ?_ | refine a_andV ?_ | refine a_orV ?_ | refine a_call ?_ | refine a_callK ?_ | refine a_met ?_ | refine a_sl ?_ | refine a_no ?_ | refine a_so ?_ | refine a_exi ?_ | refine a_neg ?_ | refine a_rev ?_ | refine a_gnm ?_ | refine a_gt2 ?_ | refine a_u0 ?_ | refine a_u1 ?_ | refine a_let ?_ | refine a_do ?_ | refine a_pars ?_ | refine a_rets ?_ | refine a_ifs ?_ | refine a_skips ?_ | refine a_set ?_ | refine a_exp ?_ | refine a_ret ?_ | refine a_if ?_ | refine a_par ?_ | refine a_as ?_ | refine a_bl ?_ | refine g_at0 ?_ | refine g_at1 ?_ | refine g_at2 ?_ | refine g_at3 ?_ | refine g_strs ?_ | refine g_nstr ?_ | refine g_eqi ?_ | refine g_nei ?_ | refine g_add ?_ | refine g_sub ?_ | refine g_gt ?_ | refine g_ge ?_ | refine g_lt ?_ | refine g_le ?_ | refine g_isn ?_ | refine g_isb ?_ | refine g_isnb ?_ | refine g_lent ?_ | refine g_int ?_) | refine ⟨(lenL (by simp only [List.length_cons, List.length_nil]; omega) : List.length _ ≤ sizeLine), ?_⟩
    refine a_isE (b := false) (by decide +kernel) (by decide +kernel) ?_
    repeat first | (with_reducible first | refine a_c ?_ | refine a_nil ?_ | refine a_cons ?_) | (with_reducible refine a_slot ?_; refine ⟨_, rfl, ?_⟩) | (with_reducible first | refine a_bin ?_ | refine a_bi ?_ | refine a_tup ?_ | refine a_lst ?_ | refine a_tst ?_ | refine a_not ?_ | refine a_and ?_ | refine a_or ?_ | refine a_ite ?_ | refine a_andV ?_ | refine a_orV ?_ | refine a_call ?_ | refine a_callK ?_ | refine a_met ?_ | refine a_sl ?_ | refine a_no ?_ | refine a_so ?_ | refine a_exi ?_ | refine a_neg ?_ | refine a_rev ?_ | refine a_gnm ?_ | refine a_gt2 ?_ | refine a_u0 ?_ | refine a_u1 ?_ | refine a_let ?_ | refine a_do ?_ | refine a_pars ?_ | refine a_rets ?_ | refine a_ifs ?_ | refine a_skips ?_ | refine a_set ?_ | refine a_exp ?_ | refine a_ret ?_ | refine a_if ?_ | refine a_par ?_ | refine a_as ?_ | refine a_bl ?_ | refine g_at0 ?_ | refine g_at1 ?_ | refine g_at2 ?_ | refine g_at3 ?_ | refine g_strs ?_ | refine g_nstr ?_ | refine g_eqi ?_ | refine g_nei ?_ | refine g_add ?_ | refine g_sub ?_ | refine g_gt ?_ | refine g_ge ?_ | refine g_lt ?_ | refine g_le ?_ | refine g_isn ?_ | refine g_isb ?_ | refine g_isnb ?_ | refine g_lent ?_ | refine g_int ?_) | refine ⟨(lenL (by simp only [List.length_cons, List.length_nil]; omega) : List.length _ ≤ sizeLine), ?_⟩
    rw [if_neg (by decide)]
    repeat first | (with_reducible first | refine a_c ?_ | refine a_nil ?_ | refine a_cons ?_) | (with_reducible refine a_slot ?_; refine ⟨_, rfl, ?_⟩) | (with_reducible first | refine a_bin ?_ | refine a_bi ?_ | refine a_tup ?_ | refine a_lst ?_ | refine a_tst ?_ | refine a_not ?_ | refine a_and ?_ | refine a_or ?_ | refine a_ite ?_ | refine a_andV ?_ | refine a_orV ?_ | refine a_call ?_ | refine a_callK ?_ | refine a_met ?_ | refine a_sl ?_ | refine a_no ?_ | refine a_so ?_ | refine a_exi ?_ | refine a_neg ?_ | refine a_rev ?_ | refine a_gnm ?_ | refine a_gt2 ?_ | refine a_u0 ?_ | refine a_u1 ?_ | refine a_let ?_ | refine a_do ?_ | refine a_pars ?_ | refine a_rets ?_ | refine a_ifs ?_ | refine a_skips ?_ | refine a_set ?_ | refine a_exp ?_ | refine a_ret ?_ | refine a_if ?_ | refine a_par ?_ | refine a_as ?_ | refine a_bl ?_ | refine g_at0 ?_ | refine g_at1 ?_ | refine g_at2 ?_ | refine g_at3 ?_ | refine g_strs ?_ | refine g_nstr ?_ | refine g_eqi ?_ | refine g_nei ?_ | refine g_add ?_ | refine g_sub ?_ | refine g_gt ?_ | refine g_ge ?_ | refine g_lt ?_ | refine g_le ?_ | refine g_isn ?_ | refine g_isb ?_ | refine g_isnb ?_ | refine g_lent ?_ | refine g_int ?_) | refine ⟨(lenL (by simp only [List.length_cons, List.length_nil]; omega) : List.length _ ≤ sizeLine), ?_⟩
    refine ⟨push_same, ?_⟩
    repeat first | (with_reducible first | refine a_c ?_ | refine a_nil ?_ | refine a_cons ?_) | (with_reducible refine a_slot ?_; refine ⟨_, rfl, ?_⟩) | (with_reducible first | refine a_bin ?_ | refine a_bi ?_ | refine a_tup ?_ | refine a_lst ?_ | refine a_tst ?_ | refine a_not ?_ | refine a_and ?_ | refine a_or ?_ | refine a_ite ?_ | refine a_andV ?_ | refine a_orV ?_ | refine a_call ?_ | refine a_callK ?_ | refine a_met ?_ | refine a_sl ?_ | refine a_no ?_ | refine a_so ?_ | refine a_exi ?_ | refine a_neg ?_ | refine a_rev ?_ | refine a_gnm ?_ | refine a_gt2 ?_ | refine a_u0 ?_ | refine a_u1 ?_ | refine a_let ?_ | refine a_do ?_ | refine a_pars ?_ | refine a_rets ?_ | refine a_ifs ?_ | refine a_skips ?_ | refine a_set ?_ | refine a_exp ?_ | refine a_ret ?_ | refine a_if ?_ | refine a_par ?_ | refine a_as ?_ | refine a_bl ?_ | refine g_at0 ?_ | refine g_at1 ?_ | refine g_at2 ?_ | refine g_at3 ?_ | refine g_strs ?_ | refine g_nstr ?_ | refine g_eqi ?_ | refine g_nei ?_ | refine g_add ?_ | refine g_sub ?_ | refine g_gt ?_ | refine g_ge ?_ | refine g_lt ?_ | refine g_le ?_ | refine g_isn ?_ | refine g_isb ?_ | refine g_isnb ?_ | refine g_lent ?_ | refine g_int ?_) | refine ⟨(lenL (by simp only [List.length_cons, List.length_nil]; omega) : List.length _ ≤ sizeLine), ?_⟩
    refine w_xf ?_
    repeat first | (with_reducible first | refine a_c ?_ | refine a_nil ?_ | refine a_cons ?_) | (with_reducible refine a_slot ?_; refine ⟨_, rfl, ?_⟩) | (with_reducible first | refine a_bin ?_ | refine a_bi ?_ | refine a_tup ?_ | refine a_lst ?_ | refine a_tst ?_ | refine a_not ?_ | refine a_and ?_ | refine a_or ?_ | refine a_ite ?_ | refine a_andV ?_ | refine a_orV ?_ | refine a_call ?_ | refine a_callK ?_ | refine a_met ?_ | refine a_sl ?_ | refine a_no ?_ | refine a_so ?_ | refine a_exi ?_ | refine a_neg ?_ | refine a_rev ?_ | refine a_gnm ?_ | refine a_gt2 ?_ | refine a_u0 ?_ | refine a_u1 ?_ | refine a_let ?_ | refine a_do ?_ | refine a_pars ?_ | refine a_rets ?_ | refine a_ifs ?_ | refine a_skips ?_ | refine a_set ?_ | refine a_exp ?_ | refine a_ret ?_ | refine a_if ?_ | refine a_par ?_ | refine a_as ?_ | refine a_bl ?_ | refine g_at0 ?_ | refine g_at1 ?_ | refine g_at2 ?_ | refine g_at3 ?_ | refine g_strs ?_ | refine g_nstr ?_ | refine g_eqi ?_ | refine g_nei ?_ | refine g_add ?_ | refine g_sub ?_ | refine g_gt ?_ | refine g_ge ?_ | refine g_lt ?_ | refine g_le ?_ | refine g_isn ?_ | refine g_isb ?_ | refine g_isnb ?_ | refine g_lent ?_ | refine g_int ?_) | refine ⟨(lenL (by simp only [List.length_cons, List.length_nil]; omega) : List.length _ ≤ sizeLine), ?_⟩
    refine ⟨_, rfl, ?_⟩
    repeat first | (with_reducible first | refine a_c ?_ | refine a_nil ?_ | refine a_cons ?_) | (with_reducible refine a_slot ?_; refine ⟨_, rfl, ?_⟩) | (with_reducible first | refine a_bin ?_ | refine a_bi ?_ | refine a_tup ?_ | refine a_lst ?_ | refine a_tst ?_ | refine a_not ?_ | refine a_and ?_ | refine a_or ?_ | refine a_ite ?_ | refine a_andV ?_ | refine a_orV ?_ | refine a_call ?_ | refine a_callK ?_ | refine a_met ?_ | refine a_sl ?_ | refine a_no ?_ | refine a_so ?_ | refine a_exi ?_ | refine a_neg ?_ | refine a_rev ?_ | refine a_gnm ?_ | refine a_gt2 ?_ | refine a_u0 ?_ | refine a_u1 ?_ | refine a_let ?_ | refine a_do ?_ | refine a_pars ?_ | refine a_rets ?_ | refine a_ifs ?_ | refine a_skips ?_ | refine a_set ?_ | refine a_exp ?_ | refine a_ret ?_ | refine a_if ?_ | refine a_par ?_ | refine a_as ?_ | refine a_bl ?_ | refine g_at0 ?_ | refine g_at1 ?_ | refine g_at2 ?_ | refine g_at3 ?_ | refine g_strs ?_ | refine g_nstr ?_ | refine g_eqi ?_ | refine g_nei ?_ | refine g_add ?_ | refine g_sub ?_ | refine g_gt ?_ | refine g_ge ?_ | refine g_lt ?_ | refine g_le ?_ | refine g_isn ?_ | refine g_isb ?_ | refine g_isnb ?_ | refine g_lent ?_ | refine g_int ?_) | refine ⟨(lenL (by simp only [List.length_cons, List.length_nil]; omega) : List.length _ ≤ sizeLine), ?_⟩
    rw [decide_eq_true rfl]
    rw [if_neg (by decide)]
    repeat first | (with_reducible first | refine a_c ?_ | refine a_nil ?_ | refine a_cons ?_) | (with_reducible refine a_slot ?_; refine ⟨_, rfl, ?_⟩) | (with_reducible first | refine a_bin ?_ | refine a_bi ?_ | refine a_tup ?_ | refine a_lst ?_ | refine a_tst ?_ | refine a_not ?_ | refine a_and ?_ | refine a_or ?_ | refine a_ite ?_ | refine a_andV ?_ | refine a_orV ?_ | refine a_call ?_ | refine a_callK ?_ | refine a_met ?_ | refine a_sl ?_ | refine a_no ?_ | refine a_so ?_ | refine a_exi ?_ | refine a_neg ?_ | refine a_rev ?_ | refine a_gnm ?_ | refine a_gt2 ?_ | refine a_u0 ?_ | refine a_u1 ?_ | refine a_let ?_ | refine a_do ?_ | refine a_pars ?_ | refine a_rets ?_ | refine a_ifs ?_ | refine a_skips ?_ | refine a_set ?_ | refine a_exp ?_ | refine a_ret ?_ | refine a_if ?_ | refine a_par ?_ | refine a_as ?_ | refine a_bl ?_ | refine g_at0 ?_ | refine g_at1 ?_ | refine g_at2 ?_ | refine g_at3 ?_ | refine g_strs ?_ | refine g_nstr ?_ | refine g_eqi ?_ | refine g_nei ?_ | refine g_add ?_ | refine g_sub ?_ | refine g_gt ?_ | refine g_ge ?_ | refine g_lt ?_ | refine g_le ?_ | refine g_isn ?_ | refine g_isb ?_ | refine g_isnb ?_ | refine g_lent ?_ | refine g_int ?_) | refine ⟨(lenL (by simp only [List.length_cons, List.length_nil]; omega) : List.length _ ≤ sizeLine), ?_⟩
    refine a_isE (b := true) (by decide +kernel) (by decide +kernel) ?_
    repeat first | (with_reducible first | refine a_c ?_ | refine a_nil ?_ | refine a_cons ?_) | (with_reducible refine a_slot ?_; refine ⟨_, rfl, ?_⟩) | (with_reducible first | refine a_bin ?_ | refine a_bi ?_ | refine a_tup ?_ | refine a_lst ?_ | refine a_tst ?_ | refine a_not ?_ | refine a_and ?_ | refine a_or ?_ | refine a_ite ?_ | refine a_andV ?_ | refine a_orV ?_ | refine a_call ?_ | refine a_callK ?_ | refine a_met ?_ | refine a_sl ?_ | refine a_no ?_ | refine a_so ?_ | refine a_exi ?_ | refine a_neg ?_ | refine a_rev ?_ | refine a_gnm ?_ | refine a_gt2 ?_ | refine a_u0 ?_ | refine a_u1 ?_ | refine a_let ?_ | refine a_do ?_ | refine a_pars ?_ | refine a_rets ?_ | refine a_ifs ?_ | refine a_skips ?_ | refine a_set ?_ | refine a_exp ?_ | refine a_ret ?_ | refine a_if ?_ | refine a_par ?_ | refine a_as ?_ | refine a_bl ?_ | refine g_at0 ?_ | refine g_at1 ?_ | refine g_at2 ?_ | refine g_at3 ?_ | refine g_strs ?_ | refine g_nstr ?_ | refine g_eqi ?_ | refine g_nei ?_ | refine g_add ?_ | refine g_sub ?_ | refine g_gt ?_ | refine g_ge ?_ | refine g_lt ?_ | refine g_le ?_ | refine g_isn ?_ | refine g_isb ?_ | refine g_isnb ?_ | refine g_lent ?_ | refine g_int ?_) | refine ⟨(lenL (by simp only [List.length_cons, List.length_nil]; omega) : List.length _ ≤ sizeLine), ?_⟩
    rw [if_neg (by decide)]
    repeat first | (with_reducible first | refine a_c ?_ | refine a_nil ?_ | refine a_cons ?_) | (with_reducible refine a_slot ?_; refine ⟨_, rfl, ?_⟩) | (with_reducible first | refine a_bin ?_ | refine a_bi ?_ | refine a_tup ?_ | refine a_lst ?_ | refine a_tst ?_ | refine a_not ?_ | refine a_and ?_ | refine a_or ?_ | refine a_ite ?_ | refine a_andV ?_ | refine a_orV ?_ | refine a_call ?_ | refine a_callK ?_ | refine a_met ?_ | refine a_sl ?_ | refine a_no ?_ | refine a_so ?_ | refine a_exi ?_ | refine a_neg ?_ | refine a_rev ?_ | refine a_gnm ?_ | refine a_gt2 ?_ | refine a_u0 ?_ | refine a_u1 ?_ | refine a_let ?_ | refine a_do ?_ | refine a_pars ?_ | refine a_rets ?_ | refine a_ifs ?_ | refine a_skips ?_ | refine a_set ?_ | refine a_exp ?_ | refine a_ret ?_ | refine a_if ?_ | refine a_par ?_ | refine a_as ?_ | refine a_bl ?_ | refine g_at0 ?_ | refine g_at1 ?_ | refine g_at2 ?_ | refine g_at3 ?_ | refine g_strs ?_ | refine g_nstr ?_ | refine g_eqi ?_ | refine g_nei ?_ | refine g_add ?_ | refine g_sub ?_ | refine g_gt ?_ | refine g_ge ?_ | refine g_lt ?_ | refine g_le ?_ | refine g_isn ?_ | refine g_isb ?_ | refine g_isnb ?_ | refine g_lent ?_ | refine g_int ?_) | refine ⟨(lenL (by simp only [List.length_cons, List.length_nil]; omega) : List.length _ ≤ sizeLine), ?_⟩
    refine a_isE (b := false) (by decide +kernel) (by decide +kernel) ?_
    repeat first | (with_reducible first | refine a_c ?_ | refine a_nil ?_ | refine a_cons ?_) | (with_reducible refine a_slot ?_; refine ⟨_, rfl, ?_⟩) | (with_reducible first | refine a_bin ?_ | refine a_bi ?_ | refine a_tup ?_ | refine a_lst ?_ | refine a_tst ?_ | refine a_not ?_ | refine a_and ?_ | refine a_or ?_ | refine a_ite ?_ | refine a_andV ?_ | refine a_orV ?_ | refine a_call ?_ | refine a_callK ?_ | refine a_met ?_ | refine a_sl ?_ | refine a_no ?_ | refine a_so ?_ | refine a_exi ?_ | refine a_neg ?_ | refine a_rev ?_ | refine a_gnm ?_ | refine a_gt2 ?_ | refine a_u0 ?_ | refine a_u1 ?_ | refine a_let ?_ | refine a_do ?_ | refine a_pars ?_ | refine a_rets ?_ | refine a_ifs ?_ | refine a_skips ?_ | refine a_set ?_ | refine a_exp ?_ | refine a_ret ?_ | refine a_if ?_ | refine a_par ?_ | refine a_as ?_ | refine a_bl ?_ | refine g_at0 ?_ | refine g_at1 ?_ | refine g_at2 ?_ | refine g_at3 ?_ | refine g_strs ?_ | refine g_nstr ?_ | refine g_eqi ?_ | refine g_nei ?_ | refine g_add ?_ | refine g_sub ?_ | refine g_gt ?_ | refine g_ge ?_ | refine g_lt ?_ | refine g_le ?_ | refine g_isn ?_ | refine g_isb ?_ | refine g_isnb ?_ | refine g_lent ?_ | refine g_int ?_) | refine ⟨(lenL (by simp only [List.length_cons, List.length_nil]; omega) : List.length _ ≤ sizeLine), ?_⟩
    rw [if_neg (by decide)]
    repeat first | (with_reducible first | refine a_c ?_ | refine a_nil ?_ | refine a_cons ?_) | (with_reducible refine a_slot ?_; refine ⟨_, rfl, ?_⟩) | (with_reducible first | refine a_bin ?_ | refine a_bi ?_ | refine a_tup ?_ | refine a_lst ?_ | refine a_tst ?_ | refine a_not ?_ | refine a_and ?_ | refine a_or ?_ | refine a_ite ?_ | refine a_andV ?_ | refine a_orV ?_ | refine a_call ?_ | refine a_callK ?_ | refine a_met ?_ | refine a_sl ?_ | refine a_no ?_ | refine a_so ?_ | refine a_exi ?_ | refine a_neg ?_ | refine a_rev ?_ | refine a_gnm ?_ | refine a_gt2 ?_ | refine a_u0 ?_ | refine a_u1 ?_ | refine a_let ?_ | refine a_do ?_ | refine a_pars ?_ | refine a_rets ?_ | refine a_ifs ?_ | refine a_skips ?_ | refine a_set ?_ | refine a_exp ?_ | refine a_ret ?_ | refine a_if ?_ | refine a_par ?_ | refine a_as ?_ | refine a_bl ?_ | refine g_at0 ?_ | refine g_at1 ?_ | refine g_at2 ?_ | refine g_at3 ?_ | refine g_strs ?_ | refine g_nstr ?_ | refine g_eqi ?_ | refine g_nei ?_ | refine g_add ?_ | refine g_sub ?_ | refine g_gt ?_ | refine g_ge ?_ | refine g_lt ?_ | refine g_le ?_ | refine g_isn ?_ | refine g_isb ?_ | refine g_isnb ?_ | refine g_lent ?_ | refine g_int ?_) | refine ⟨(lenL (by simp only [List.length_cons, List.length_nil]; omega) : List.length _ ≤ sizeLine), ?_⟩
    refine ⟨push_same, ?_⟩
    repeat first | (with_reducible first | refine a_c ?_ | refine a_nil ?_ | refine a_cons ?_) | (with_reducible refine a_slot ?_; refine ⟨_, rfl, ?_⟩) | (with_reducible first | refine a_bin ?_ | refine a_bi ?_ | refine a_tup ?_ | refine a_lst ?_ | refine a_tst ?_ | refine a_not ?_ | refine a_and ?_ | refine a_or ?_ | refine a_ite ?_ | refine a_andV ?_ | refine a_orV ?_ | refine a_call ?_ | refine a_callK ?_ | refine a_met ?_ | refine a_sl ?_ | refine a_no ?_ | refine a_so ?_ | refine a_exi ?_ | refine a_neg ?_ | refine a_rev ?_ | refine a_gnm ?_ | refine a_gt2 ?_ | refine a_u0 ?_ | refine a_u1 ?_ | refine a_let ?_ | refine a_do ?_ | refine a_pars ?_ | refine a_rets ?_ | refine a_ifs ?_ | refine a_skips ?_ | refine a_set ?_ | refine a_exp ?_ | refine a_ret ?_ | refine a_if ?_ | refine a_par ?_ | refine a_as ?_ | refine a_bl ?_ | refine g_at0 ?_ | refine g_at1 ?_ | refine g_at2 ?_ | refine g_at3 ?_ | refine g_strs ?_ | refine g_nstr ?_ | refine g_eqi ?_ | refine g_nei ?_ | refine g_add ?_ | refine g_sub ?_ | refine g_gt ?_ | refine g_ge ?_ | refine g_lt ?_ | refine g_le ?_ | refine g_isn ?_ | refine g_isb ?_ | refine g_isnb ?_ | refine g_lent ?_ | refine g_int ?_) | refine ⟨(lenL (by simp only [List.length_cons, List.length_nil]; omega) : List.length _ ≤ sizeLine), ?_⟩
    exact ⟨_, rfl⟩
  rintro _ S6 ⟨a3, rfl⟩
  repeat first | (with_reducible first | refine a_c ?_ | refine a_nil ?_ | refine a_cons ?_) | (with_reducible refine a_slot ?_; refine ⟨_, rfl, ?_⟩) | (with_reducible first | refine a_bin ?_ | refine a_bi ?_ | refine a_tup ?_ | refine a_lst ?_ | refine a_tst ?_ | refine a_not ?_ | refine a_and ?_ | refine a_or ?_ | refine a_ite ?_ | refine a_andV ?_ | refine a_orV ?_ | refine a_call ?_ | refine a_callK ?_ | refine a_met ?_ | refine a_sl ?_ | refine a_no ?_ | refine a_so ?_ | refine a_exi ?_ | refine a_neg ?_ | refine a_rev ?_ | refine a_gnm ?_ | refine a_gt2 ?_ | refine a_u0 ?_ | refine a_u1 ?_ | refine a_let ?_ | refine a_do ?_ | refine a_pars ?_ | refine a_rets ?_ | refine a_ifs ?_ | refine a_skips ?_ | refine a_set ?_ | refine a_exp ?_ | refine a_ret ?_ | refine a_if ?_ | refine a_par ?_ | refine a_as ?_ | refine a_bl ?_ | refine g_at0 ?_ | refine g_at1 ?_ | refine g_at2 ?_ | refine g_at3 ?_ | refine g_strs ?_ | refine g_nstr ?_ | refine g_eqi ?_ | refine g_nei ?_ | refine g_add ?_ | refine g_sub ?_ | refine g_gt ?_ | refine g_ge ?_ | refine g_lt ?_ | refine g_le ?_ | refine g_isn ?_ | refine g_isb ?_ | refine g_isnb ?_ | refine g_lent ?_ | refine g_int ?_) | refine ⟨(lenL (by simp only [List.length_cons, List.length_nil]; omega) : List.length _ ≤ sizeLine), ?_⟩
  refine a_mkF ?_
  repeat first | (with_reducible first | refine a_c ?_ | refine a_nil ?_ | refine a_cons ?_) | (with_reducible refine a_slot ?_; refine ⟨_, rfl, ?_⟩) | (with_reducible first | refine a_bin ?_ | refine a_bi ?_ | refine a_tup ?_ | refine a_lst ?_ | refine a_tst ?_ | refine a_not ?_ | refine a_and ?_ | refine a_or ?_ | refine a_ite ?_ | refine a_andV ?_ | refine a_orV ?_ | refine a_call ?_ | refine a_callK ?_ | refine a_met ?_ | refine a_sl ?_ | refine a_no ?_ | refine a_so ?_ | refine a_exi ?_ | refine a_neg ?_ | refine a_rev ?_ | refine a_gnm ?_ | refine a_gt2 ?_ | refine a_u0 ?_ | refine a_u1 ?_ | refine a_let ?_ | refine a_do ?_ | refine a_pars ?_ | refine a_rets ?_ | refine a_ifs ?_ | refine a_skips ?_ | refine a_set ?_ | refine a_exp ?_ | refine a_ret ?_ | refine a_if ?_ | refine a_par ?_ | refine a_as ?_ | refine a_bl ?_ | refine g_at0 ?_ | refine g_at1 ?_ | refine g_at2 ?_ | refine g_at3 ?_ | refine g_strs ?_ | refine g_nstr ?_ | refine g_eqi ?_ | refine g_nei ?_ | refine g_add ?_ | refine g_sub ?_ | refine g_gt ?_ | refine g_ge ?_ | refine g_lt ?_ | refine g_le ?_ | refine g_isn ?_ | refine g_isb ?_ | refine g_isnb ?_ | refine g_lent ?_ | refine g_int ?_) | refine ⟨(lenL (by simp only [List.length_cons, List.length_nil]; omega) : List.length _ ≤ sizeLine), ?_⟩
  refine ⟨hf, ?_⟩
  repeat first | (with_reducible first | refine a_c ?_ | refine a_nil ?_ | refine a_cons ?_) | (with_reducible refine a_slot ?_; refine ⟨_, rfl, ?_⟩) | (with_reducible first | refine a_bin ?_ | refine a_bi ?_ | refine a_tup ?_ | refine a_lst ?_ | refine a_tst ?_ | refine a_not ?_ | refine a_and ?_ | refine a_or ?_ | refine a_ite ?_ | refine a_andV ?_ | refine a_orV ?_ | refine a_call ?_ | refine a_callK ?_ | refine a_met ?_ | refine a_sl ?_ | refine a_no ?_ | refine a_so ?_ | refine a_exi ?_ | refine a_neg ?_ | refine a_rev ?_ | refine a_gnm ?_ | refine a_gt2 ?_ | refine a_u0 ?_ | refine a_u1 ?_ | refine a_let ?_ | refine a_do ?_ | refine a_pars ?_ | refine a_rets ?_ | refine a_ifs ?_ | refine a_skips ?_ | refine a_set ?_ | refine a_exp ?_ | refine a_ret ?_ | refine a_if ?_ | refine a_par ?_ | refine a_as ?_ | refine a_bl ?_ | refine g_at0 ?_ | refine g_at1 ?_ | refine g_at2 ?_ | refine g_at3 ?_ | refine g_strs ?_ | refine g_nstr ?_ | refine g_eqi ?_ | refine g_nei ?_ | refine g_add ?_ | refine g_sub ?_ | refine g_gt ?_ | refine g_ge ?_ | refine g_lt ?_ | refine g_le ?_ | refine g_isn ?_ | refine g_isb ?_ | refine g_isnb ?_ | refine g_lent ?_ | refine g_int ?_) | refine ⟨(lenL (by simp only [List.length_cons, List.length_nil]; omega) : List.length _ ≤ sizeLine), ?_⟩
  refine a_isE (b := true) (by decide +kernel) (by decide +kernel) ?_
  repeat first | (with_reducible first | refine a_c ?_ | refine a_nil ?_ | refine a_cons ?_) | (with_reducible refine a_slot ?_; refine ⟨_, rfl, ?_⟩) | (with_reducible first | refine a_bin ?_ | refine a_bi ?_ | refine a_tup ?_ | refine a_lst ?_ | refine a_tst ?_ | refine a_not ?_ | refine a_and ?_ | refine a_or ?_ | refine a_ite ?_ | refine a_andV ?_ | refine a_orV ?_ | refine a_call ?_ | refine a_callK ?_ | refine a_met ?_ | refine a_sl ?_ | refine a_no ?_ | refine a_so ?_ | refine a_exi ?_ | refine a_neg ?_ | refine a_rev ?_ | refine a_gnm ?_ | refine a_gt2 ?_ | refine a_u0 ?_ | refine a_u1 ?_ | refine a_let ?_ | refine a_do ?_ | refine a_pars ?_ | refine a_rets ?_ | refine a_ifs ?_ | refine a_skips ?_ | refine a_set ?_ | refine a_exp ?_ | refine a_ret ?_ | refine a_if ?_ | refine a_par ?_ | refine a_as ?_ | refine a_bl ?_ | refine g_at0 ?_ | refine g_at1 ?_ | refine g_at2 ?_ | refine g_at3 ?_ | refine g_strs ?_ | refine g_nstr ?_ | refine g_eqi ?_ | refine g_nei ?_ | refine g_add ?_ | refine g_sub ?_ | refine g_gt ?_ | refine g_ge ?_ | refine g_lt ?_ | refine g_le ?_ | refine g_isn ?_ | refine g_isb ?_ | refine g_isnb ?_ | refine g_lent ?_ | refine g_int ?_) | refine ⟨(lenL (by simp only [List.length_cons, List.length_nil]; omega) : List.length _ ≤ sizeLine), ?_⟩
  rw [if_pos rfl]
  repeat first | (with_reducible first | refine a_c ?_ | refine a_nil ?_ | refine a_cons ?_) | (with_reducible refine a_slot ?_; refine ⟨_, rfl, ?_⟩) | (with_reducible first | refine a_bin ?_ | refine a_bi ?_ | refine a_tup ?_ | refine a_lst ?_ | refine a_tst ?_ | refine a_not ?_ | refine a_and ?_ | refine a_or ?_ | refine a_ite ?_ | refine a_andV ?_ | refine a_orV ?_ | refine a_call ?_ | refine a_callK ?_ | refine a_met ?_ | refine a_sl ?_ | refine a_no ?_ | refine a_so ?_ | refine a_exi ?_ | refine a_neg ?_ | refine a_rev ?_ | refine a_gnm ?_ | refine a_gt2 ?_ | refine a_u0 ?_ | refine a_u1 ?_ | refine a_let ?_ | refine a_do ?_ | refine a_pars ?_ | refine a_rets ?_ | refine a_ifs ?_ | refine a_skips ?_ | refine a_set ?_ | refine a_exp ?_ | refine a_ret ?_ | refine a_if ?_ | refine a_par ?_ | refine a_as ?_ | refine a_bl ?_ | refine g_at0 ?_ | refine g_at1 ?_ | refine g_at2 ?_ | refine g_at3 ?_ | refine g_strs ?_ | refine g_nstr ?_ | refine g_eqi ?_ | refine g_nei ?_ | refine g_add ?_ | refine g_sub ?_ | refine g_gt ?_ | refine g_ge ?_ | refine g_lt ?_ | refine g_le ?_ | refine g_isn ?_ | refine g_isb ?_ | refine g_isnb ?_ | refine g_lent ?_ | refine g_int ?_) | refine ⟨(lenL (by simp only [List.length_cons, List.length_nil]; omega) : List.length _ ≤ sizeLine), ?_⟩
  refine a_mkF ?_
  repeat first | (with_reducible first | refine a_c ?_ | refine a_nil ?_ | refine a_cons ?_) | (with_reducible refine a_slot ?_; refine ⟨_, rfl, ?_⟩) | (with_reducible first | refine a_bin ?_ | refine a_bi ?_ | refine a_tup ?_ | refine a_lst ?_ | refine a_tst ?_ | refine a_not ?_ | refine a_and ?_ | refine a_or ?_ | refine a_ite ?_ | refine a_andV ?_ | refine a_orV ?_ | refine a_call ?_ | refine a_callK ?_ | refine a_met ?_ | refine a_sl ?_ | refine a_no ?_ | refine a_so ?_ | refine a_exi ?_ | refine a_neg ?_ | refine a_rev ?_ | refine a_gnm ?_ | refine a_gt2 ?_ | refine a_u0 ?_ | refine a_u1 ?_ | refine a_let ?_ | refine a_do ?_ | refine a_pars ?_ | refine a_rets ?_ | refine a_ifs ?_ | refine a_skips ?_ | refine a_set ?_ | refine a_exp ?_ | refine a_ret ?_ | refine a_if ?_ | refine a_par ?_ | refine a_as ?_ | refine a_bl ?_ | refine g_at0 ?_ | refine g_at1 ?_ | refine g_at2 ?_ | refine g_at3 ?_ | refine g_strs ?_ | refine g_nstr ?_ | refine g_eqi ?_ | refine g_nei ?_ | refine g_add ?_ | refine g_sub ?_ | refine g_gt ?_ | refine g_ge ?_ | refine g_lt ?_ | refine g_le ?_ | refine g_isn ?_ | refine g_isb ?_ | refine g_isnb ?_ | refine g_lent ?_ | refine g_int ?_) | refine ⟨(lenL (by simp only [List.length_cons, List.length_nil]; omega) : List.length _ ≤ sizeLine), ?_⟩
  refine ⟨hf, ?_⟩
  repeat first | (with_reducible first | refine a_c ?_ | refine a_nil ?_ | refine a_cons ?_) | (with_reducible refine a_slot ?_; refine ⟨_, rfl, ?_⟩) | (with_reducible first | refine a_bin ?_ | refine a_bi ?_ | refine a_tup ?_ | refine a_lst ?_ | refine a_tst ?_ | refine a_not ?_ | refine a_and ?_ | refine a_or ?_ | refine a_ite ?_ | refine a_andV ?_ | refine a_orV ?_ | refine a_call ?_ | refine a_callK ?_ | refine a_met ?_ | refine a_sl ?_ | refine a_no ?_ | refine a_so ?_ | refine a_exi ?_ | refine a_neg ?_ | refine a_rev ?_ | refine a_gnm ?_ | refine a_gt2 ?_ | refine a_u0 ?_ | refine a_u1 ?_ | refine a_let ?_ | refine a_do ?_ | refine a_pars ?_ | refine a_rets ?_ | refine a_ifs ?_ | refine a_skips ?_ | refine a_set ?_ | refine a_exp ?_ | refine a_ret ?_ | refine a_if ?_ | refine a_par ?_ | refine a_as ?_ | refine a_bl ?_ | refine g_at0 ?_ | refine g_at1 ?_ | refine g_at2 ?_ | refine g_at3 ?_ | refine g_strs ?_ | refine g_nstr ?_ | refine g_eqi ?_ | refine g_nei ?_ | refine g_add ?_ | refine g_sub ?_ | refine g_gt ?_ | refine g_ge ?_ | refine g_lt ?_ | refine g_le ?_ | refine g_isn ?_ | refine g_isb ?_ | refine g_isnb ?_ | refine g_lent ?_ | refine g_int ?_) | refine ⟨(lenL (by simp only [List.length_cons, List.length_nil]; omega) : List.length _ ≤ sizeLine), ?_⟩
  exact a_isE (b := true) (by decide +kernel) (by decide +kernel) rfl
theorem plain : Plain := fun ns h _ => by
  obtain ⟨r, S', h1, h2⟩ := wpe_ok (law_gen (m := 226) (ns := ns) (by decide) h)
  subst h2
  exact ⟨S', h1⟩
end G

theorem PySem.Challenge.cw_oneuseheads_k14_errors_made_holds : PySem.Challenge.rw_oneuseheads_k14_errors_made.Holds := by
  exact G.holds G.plain